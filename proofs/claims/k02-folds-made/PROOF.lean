import PyProof.Rows.All
import HandS.ForMost
import HandS.ForExc
import HandS.Flow
import HandS.IsInst
import HandS.Deep
import HandS.Wide
import HandS.Style
import HandS.Defaults
import HandS.HeadHook4
import HandS.SetKeys
import HandS.CallSlots
import HandS.SortInts
import HandS.TryOnly
import HandS.Zip
import HandS.RaiseOp
import HandS.ExcBuiltin
import HandS.HeadEnd
import HandS.Head0
import HandS.Head1
import HandS.Head2
import PySem.Challenge.RW_oweback_k02_folds_made
set_option Elab.async false
set_option linter.all false
set_option maxRecDepth 100000
set_option maxHeartbeats 0
namespace VY
open PySem L2

/-- a value: immutable containers as trees; slst: a list that the top or the caller holds, read only; ref: a mutable object of the small heap -/
inductive T where
  | non | bl (b : Bool) | int (i : Int) | str (s : Str) | ty (n : String) | gl (x : Str) | ref (n : Nat)
  | tup (l : List T) | lst (l : List T) | slst (l : List T) | dct (l : List (Key × T)) | ins (c : Str) (fs : List (Str × T))
  deriving Inhabited
/-- a mutable object -/
inductive HOb where
  | lst (l : List T) | dct (l : List (Key × T)) | ins (c : Str) (fs : List (Str × T)) | set (l : List Key) | dead
mutual
def T.beq : T → T → Bool
  | .non, .non => true
  | .bl a, .bl b => a == b
  | .int a, .int b => decide (a = b)
  | .str a, .str b => decide (a = b)
  | .ty a, .ty b => decide (a = b)
  | .gl a, .gl b => decide (a = b)
  | .ref a, .ref b => decide (a = b)
  | .tup a, .tup b => Ts.beq a b
  | .lst a, .lst b => Ts.beq a b
  | .slst a, .slst b => Ts.beq a b
  | .dct a, .dct b => Td.beq a b
  | .ins c a, .ins d b => decide (c = d) && Tf.beq a b
  | _, _ => false
def Ts.beq : List T → List T → Bool
  | [], [] => true
  | a :: l, b :: m => T.beq a b && Ts.beq l m
  | _, _ => false
def Td.beq : List (Key × T) → List (Key × T) → Bool
  | [], [] => true
  | (k, a) :: l, (k', b) :: m => decide (k = k') && T.beq a b && Td.beq l m
  | _, _ => false
def Tf.beq : List (Str × T) → List (Str × T) → Bool
  | [], [] => true
  | (k, a) :: l, (k', b) :: m => decide (k = k') && T.beq a b && Tf.beq l m
  | _, _ => false
end
def HOb.beq : HOb → HOb → Bool
  | .lst a, .lst b => Ts.beq a b
  | .dct a, .dct b => Td.beq a b
  | _, _ => false
mutual
theorem T.beq_eq : ∀ {a b : T}, T.beq a b = true → a = b
  | .non, b, e => by cases b <;> simp [T.beq] at e ⊢
  | .bl a, b, e => by cases b <;> simp [T.beq] at e ⊢; exact e
  | .int a, b, e => by cases b <;> simp [T.beq] at e ⊢; exact e
  | .str a, b, e => by cases b <;> simp [T.beq] at e ⊢; exact e
  | .ty a, b, e => by cases b <;> simp [T.beq] at e ⊢; exact e
  | .gl a, b, e => by cases b <;> simp [T.beq] at e ⊢; exact e
  | .ref a, b, e => by cases b <;> simp [T.beq] at e ⊢; exact e
  | .tup a, b, e => by cases b <;> simp [T.beq] at e ⊢; exact Ts.beq_eq e
  | .lst a, b, e => by cases b <;> simp [T.beq] at e ⊢; exact Ts.beq_eq e
  | .slst a, b, e => by cases b <;> simp [T.beq] at e ⊢; exact Ts.beq_eq e
  | .dct a, b, e => by cases b <;> simp [T.beq] at e ⊢; exact Td.beq_eq e
  | .ins c a, b, e => by cases b <;> simp [T.beq] at e ⊢; exact ⟨e.1, Tf.beq_eq e.2⟩
theorem Ts.beq_eq : ∀ {a b : List T}, Ts.beq a b = true → a = b
  | [], [], _ => rfl
  | a :: l, b :: m, e => by
    rw [Ts.beq, Bool.and_eq_true] at e
    rw [T.beq_eq e.1, Ts.beq_eq e.2]
  | [], _ :: _, e => by simp [Ts.beq] at e
  | _ :: _, [], e => by simp [Ts.beq] at e
theorem Td.beq_eq : ∀ {a b : List (Key × T)}, Td.beq a b = true → a = b
  | [], [], _ => rfl
  | (k, a) :: l, (k', b) :: m, e => by
    rw [Td.beq, Bool.and_eq_true, Bool.and_eq_true, decide_eq_true_eq] at e
    rw [e.1.1, T.beq_eq e.1.2, Td.beq_eq e.2]
  | [], _ :: _, e => by simp [Td.beq] at e
  | _ :: _, [], e => by simp [Td.beq] at e
theorem Tf.beq_eq : ∀ {a b : List (Str × T)}, Tf.beq a b = true → a = b
  | [], [], _ => rfl
  | (k, a) :: l, (k', b) :: m, e => by
    rw [Tf.beq, Bool.and_eq_true, Bool.and_eq_true, decide_eq_true_eq] at e
    rw [e.1.1, T.beq_eq e.1.2, Tf.beq_eq e.2]
  | [], _ :: _, e => by simp [Tf.beq] at e
  | _ :: _, [], e => by simp [Tf.beq] at e
end
mutual
theorem T.beq_rfl : ∀ a : T, T.beq a a = true
  | .non => by simp [T.beq]
  | .bl a => by simp [T.beq]
  | .int a => by simp [T.beq]
  | .str a => by simp [T.beq]
  | .ty a => by simp [T.beq]
  | .gl a => by simp [T.beq]
  | .ref a => by simp [T.beq]
  | .tup a => by simp [T.beq]; exact Ts.beq_rfl a
  | .lst a => by simp [T.beq]; exact Ts.beq_rfl a
  | .slst a => by simp [T.beq]; exact Ts.beq_rfl a
  | .dct a => by simp [T.beq]; exact Td.beq_rfl a
  | .ins c a => by simp [T.beq]; exact Tf.beq_rfl a
theorem Ts.beq_rfl : ∀ a : List T, Ts.beq a a = true
  | [] => by simp [Ts.beq]
  | a :: l => by rw [Ts.beq, T.beq_rfl a, Ts.beq_rfl l]; rfl
theorem Td.beq_rfl : ∀ a : List (Key × T), Td.beq a a = true
  | [] => by simp [Td.beq]
  | (k, a) :: l => by rw [Td.beq, T.beq_rfl a, Td.beq_rfl l, decide_eq_true rfl]; rfl
theorem Tf.beq_rfl : ∀ a : List (Str × T), Tf.beq a a = true
  | [] => by simp [Tf.beq]
  | (k, a) :: l => by rw [Tf.beq, T.beq_rfl a, Tf.beq_rfl l, decide_eq_true rfl]; rfl
end
theorem HOb.beq_eq {a b : HOb} (e : HOb.beq a b = true) : a = b := by
  cases a <;> cases b <;> simp [HOb.beq] at e
  · rw [Ts.beq_eq e]
  · rw [Td.beq_eq e]
/-- what an expression gives: a value, a fresh list that nobody else holds, the list that slot i owns -/
inductive R where
  | v (t : T) | al (l : List T) | bw (i : Nat)
/-- a slot: a value, or a list that it owns -/
inductive Sl where
  | v (t : T) | al (l : List T)
abbrev Slots := List (Option Sl)
abbrev Hs := List HOb
/-- an exception: a built-in class, an own class with its fields -/
inductive Xn where
  | blt (n : String) | own (c : Str) (fs : List (Str × T))
inductive Out (α : Type) where
  | ok (a : α) (h : Hs) | ex (x : Xn) (h : Hs) | bad
namespace Out
def bind {α β : Type} : Out α → (α → Hs → Out β) → Out β
  | .ok a h, f => f a h
  | .ex x h, _ => .ex x h
  | .bad, _ => .bad
@[simp] theorem bind_ok {α β : Type} (a : α) (h : Hs) (f : α → Hs → Out β) : (Out.ok a h).bind f = f a h := (rfl)
@[simp] theorem bind_ex {α β : Type} (x : Xn) (h : Hs) (f : α → Hs → Out β) : (Out.ex x h).bind f = .ex x h := (rfl)
@[simp] theorem bind_bad {α β : Type} (f : α → Hs → Out β) : (Out.bad : Out α).bind f = .bad := (rfl)
end Out
def lift {α : Type} : Option α → Hs → Out α
  | some a, h => .ok a h
  | none, _ => .bad
@[simp] theorem lift_some {α : Type} (a : α) (h : Hs) : lift (some a) h = .ok a h := (rfl)
@[simp] theorem lift_none {α : Type} (h : Hs) : lift (none : Option α) h = .bad := (rfl)

inductive CT where
  | non | bl (b : Bool) | int (i : Int) | str (s : Str)
def CT.t : CT → T
  | .non => .non | .bl b => .bl b | .int i => .int i | .str s => .str s
/-- the built-in functions -/
inductive Bf where
  | len | abs | int | str | isinstance | max | min | tuple | list | sum | any | all | sorted
  deriving DecidableEq
/-- operations of all sorts, by what is written -/
inductive Op where
  | rev | lns | fdv
  deriving DecidableEq
/-- methods of built-in types -/
inductive Mt where
  | index | get | reverse
  deriving DecidableEq
/-- a target -/
inductive Tg where
  | nm (i : Nat) | tp (l : List Tg)
mutual
inductive E where
  | c (k : CT) | var (i : Nat) | gl (x : Nat)
  | bin (op : Operator) (a b : E) | neg (a : E) | not (a : E) | bop (op : BoolOp) (es : List E)
  | cmp (op : CmpOp) (a b : E) | ch (op op' : CmpOp) (a b c : E) | ife (c : C) (a b : E)
  | tup (es : List E) | lst (es : List E) | ix (a b : E) | sl (a : E) (lo hi : O)
  | call (f : Nat) (es : List E) | blt (f : Bf) (es : List E) | callv (i : Nat) (es : List E) | op (o : Op) (es : List E)
  | mth (m : Mt) (o : E) (es : List E) | dsp (es : List E)
  | lc (elt : E) (tg : Tg) (it : It) (cond : C)
/-- a part of a slice -/
inductive O where
  | no | at (e : E)
/-- what is walked -/
inductive It where
  | e (x : E) | r1 (a : E) | r2 (a b : E)
/-- a test; yes: none -/
inductive C where
  | yes | t (e : E) | not (c : C) | bop (op : BoolOp) (cs : List C)
end
inductive S where
  | asg (i : Nat) (e : E) | asgT (tg : Tg) (e : E) | setIx (o i e : E) | expr (e : E)
  | ret (e : E) | retS (i : Nat) | retN | ife (c : C) (a b : List S) | for (tg : Tg) (it : It) (body : List S)
  | whl (c : C) (body : List S) | brk | cnt | pass | app (i : Nat) (e : E) | fz (i : Nat) | pr (i : Nat)
  | aug (i : Nat) (op : Operator) (e : E)
  | try1 (x : String) (body suite : List S)
  | par2 (i j : Nat) (a b : E) | par3 (i j l : Nat) (a b c : E)

abbrev SL : Nat := 16777216
/-- an object of the heap, looked at as a tree -/
def seen (h : Hs) : T → T
  | .ref n => (match h[n]? with
    | some (.lst l) => .lst l
    | some (.dct l) => .dct l
    | _ => .ref n)
  | t => t
def peek (σ : Slots) (h : Hs) : R → Option T
  | .v t => some (seen h t)
  | .al l => some (.lst l)
  | .bw i => match σ[i]? with
    | some (some (.al l)) => some (.lst l)
    | _ => none
def frz : R → Option T
  | .v t => some t
  | .al l => some (.lst l)
  | .bw _ => none
def keyT : T → Option Key
  | .int i => some (.inl i)
  | .str x => some (.inr x)
  | _ => none
def lookT (l : List (Key × T)) (k : Key) : Option T := (l.find? fun kv => decide (kv.1 = k)).map (·.2)
/-- in its place, or at the end -/
def putT (l : List (Key × T)) (k : Key) (v : T) : List (Key × T) :=
  if (l.any fun kv => decide (kv.1 = k)) = true then l.map (fun kv => if kv.1 = k then (kv.1, v) else kv) else l ++ [(k, v)]
def mergeT (l more : List (Key × T)) : List (Key × T) := more.foldl (fun acc kv => putT acc kv.1 kv.2) l
/-- keys and values in turn -/
def pairsT : List T → Option (List (Key × T))
  | [] => some []
  | k :: v :: l => match keyT k, pairsT l with
    | some k, some r => some ((k, v) :: r)
    | _, _ => none
  | _ => none
def mulOk (i j : Int) : Bool := decide (-(2 ^ 64) < i ∧ i < 2 ^ 64) || decide (-(2 ^ 64) < j ∧ j < 2 ^ 64) || decide (i.natAbs.log2 + j.natAbs.log2 < 1000000)
def fdivT (i j : Int) : Option Int :=
  if 0 < j ∧ j.natAbs.log2 < 9000 then some (i / j) else if j ≠ 0 ∧ j.natAbs < 1073741824 then some (i.fdiv j) else none
def modT (i j : Int) : Option Int := if 0 < j then some (i % j) else if j ≠ 0 then some (i.fmod j) else none
def powT (i j : Int) : Option Int := if 0 ≤ j ∧ (Builtin.Int.intBits i : Int) * j ≤ 2 ^ 27 then some (i ^ j.toNat) else none
def opR : Operator → T → T → Option R
  | .Add, .int i, .int j => some (.v (.int (i + j)))
  | .Add, .str a, .str b => if a.length + b.length ≤ SL then some (.v (.str (a ++ b))) else none
  | .Add, .lst a, .lst b => if a.length + b.length ≤ SL then some (.al (a ++ b)) else none
  | .Sub, .int i, .int j => some (.v (.int (i - j)))
  | .Mult, .int i, .int j => if mulOk i j then some (.v (.int (i * j))) else none
  | .Mult, .lst a, .int k => if -(2 ^ 63) ≤ k ∧ k < 2 ^ 63 ∧ a.length * k.toNat ≤ SL then some (.al (List.replicate k.toNat a).flatten) else none
  | .FloorDiv, .int i, .int j => (fdivT i j).map fun r => .v (.int r)
  | .Mod, .int i, .int j => (modT i j).map fun r => .v (.int r)
  | .Pow, .int i, .int j => (powT i j).map fun r => .v (.int r)
  | _, _, _ => none
mutual
/-- data without objects -/
def toD : T → Option PyData
  | .non => some .none
  | .bl b => some (.bool b)
  | .int i => some (.int i)
  | .str s => some (.str s)
  | .tup l => (toDs l).map .tuple
  | .lst l => (toDs l).map .list
  | .slst l => (toDs l).map .list
  | _ => none
def toDs : List T → Option (List PyData)
  | [] => some []
  | t :: l => match toD t, toDs l with
    | some d, some ds => some (d :: ds)
    | _, _ => none
end
def eqT (t u : T) : Option Bool := match toD t, toD u with
  | some d, some e => if SeqAt.shaped d && SeqAt.shaped e then some (PyData.eqv d e) else none
  | _, _ => none
def inT (t : T) : T → Option Bool
  | .lst l => match toD t, toDs l with
    | some d, some ds => if SeqAt.shaped d && SeqAt.shaped (.list ds) then some (ds.any fun z => PyData.eqv z d) else none
    | _, _ => none
  | .slst l => match toD t, toDs l with
    | some d, some ds => if SeqAt.shaped d && SeqAt.shaped (.list ds) then some (ds.any fun z => PyData.eqv z d) else none
    | _, _ => none
  | .tup l => flatIn t l
  | .dct l => (keyT t).map fun k => (lookT l k).isSome
  | _ => none
where
  flatOf : T → Option V
    | .non => some .non | .bl b => some (.bl b) | .int i => some (.int i) | .str s => some (.str s) | _ => none
  flatIn (t : T) (l : List T) : Option Bool := match flatOf t, l.mapM flatOf with
    | some v, some vs => if flatV v && vs.all flatV then some (inV v vs) else none
    | _, _ => none
def cmpR : CmpOp → T → T → Option Bool
  | .Eq, t, u => eqT t u
  | .NotEq, t, u => (eqT t u).map (!·)
  | .Lt, .int i, .int j => some (decide (i < j))
  | .LtE, .int i, .int j => some (decide (i ≤ j))
  | .Gt, .int i, .int j => some (decide (j < i))
  | .GtE, .int i, .int j => some (decide (j ≤ i))
  | .Is, t, .non => some (match t with | .non => true | _ => false)
  | .IsNot, t, .non => some (match t with | .non => false | _ => true)
  | .In, t, u => inT t u
  | .NotIn, t, u => (inT t u).map (!·)
  | _, _, _ => none
def truT : T → Option Bool
  | .non => some false
  | .bl b => some b
  | .int i => some (i != 0)
  | .str s => if s.length ≤ SL then some ((s.length : Int) != 0) else none
  | .tup l => some (!l.isEmpty)
  | .lst l => some (!l.isEmpty)
  | .slst l => some (!l.isEmpty)
  | _ => none
def ixR : T → T → Option T
  | .lst l, .int i => atI l i
  | .slst l, .int i => atI l i
  | .tup l, .int i => atI l i
  | .str s, .int i => if s.length ≤ SL then (atI s.cps.toList i).map fun c => .str ⟨#[c]⟩ else none
  | .dct l, t => (keyT t).bind (lookT l)
  | _, _ => none
def cutT {α : Type} (l : List α) (lo hi : Option Int) : List α := (l.drop (HT.sIx l.length 0 lo)).take (HT.sIx l.length l.length hi - HT.sIx l.length 0 lo)
def slR : T → Option Int → Option Int → Option R
  | .lst l, lo, hi => some (.al (cutT l lo hi))
  | .slst l, lo, hi => some (.al (cutT l lo hi))
  | _, _, _ => none
def tyN : T → Option String
  | .non => some "NoneType" | .bl _ => some "bool" | .int _ => some "int" | .str _ => some "str" | .tup _ => some "tuple" | .lst _ => some "list" | .slst _ => some "list" | _ => none
def isiS (a b : String) : Option Bool :=
  if ["NoneType", "bool", "int", "str", "tuple", "list", "dict"].contains a && ["bool", "int", "str", "tuple", "list", "dict"].contains b then
    some (a == b || (a == "bool" && b == "int")) else none
def lenT : T → Option Nat
  | .lst l => some l.length
  | .slst l => some l.length
  | .tup l => some l.length
  | .str s => if s.length ≤ SL then some s.length else none
  | _ => none
def intsOf : List T → Option (List Int)
  | [] => some []
  | .int i :: l => (intsOf l).map (i :: ·)
  | _ :: _ => none
def blsOf : List T → Option (List Bool)
  | [] => some []
  | .bl b :: l => (blsOf l).map (b :: ·)
  | _ :: _ => none
def maxI : List Int → Option Int
  | [] => none
  | [a] => some a
  | a :: l => (maxI l).map fun b => if a < b then b else a
def minI : List Int → Option Int
  | [] => none
  | [a] => some a
  | a :: l => (minI l).map fun b => if b < a then b else a
def sortI (l : List Int) : List Int := l.mergeSort fun a b => decide (a ≤ b)
def bltR : Bf → List T → Option R
  | .len, [t] => (lenT t).map fun n => .v (.int n)
  | .abs, [.int i] => some (.v (.int (if i < 0 then -i else i)))
  | .int, [.int i] => some (.v (.int i))
  | .int, [.bl b] => some (.v (.int (if b then 1 else 0)))
  | .str, [.int i] => if i.natAbs.log2 < 1920 then some (.v (.str (toString i))) else none
  | .isinstance, [t, .ty n] => match tyN t with
    | some a => (isiS a n).map fun b => .v (.bl b)
    | none => none
  | .max, [.int i, .int j] => some (.v (.int (if j > i then j else i)))
  | .min, [.int i, .int j] => some (.v (.int (if j < i then j else i)))
  | .tuple, [.lst l] => some (.v (.tup l))
  | .tuple, [.slst l] => some (.v (.tup l))
  | .tuple, [.tup l] => some (.v (.tup l))
  | .list, [.lst l] => some (.al l)
  | .list, [.slst l] => some (.al l)
  | .list, [.tup l] => some (.al l)
  | .sum, [.lst l] => (intsOf l).map fun ns => .v (.int ns.sum)
  | .max, [.lst l] => ((intsOf l).bind maxI).map fun n => .v (.int n)
  | .min, [.lst l] => ((intsOf l).bind minI).map fun n => .v (.int n)
  | .any, [.lst l] => (blsOf l).map fun bs => .v (.bl (bs.any id))
  | .all, [.lst l] => (blsOf l).map fun bs => .v (.bl (bs.all id))
  | .sorted, [.lst l] => (intsOf l).map fun ns => .al ((sortI ns).map .int)
  | _, _ => none
def itemsT : T → Option (List T)
  | .lst l => some l
  | .slst l => some l
  | .tup l => some l
  | _ => none
def rngT (lo hi : Int) : Option (List T) :=
  if -(2 ^ 62) ≤ lo ∧ lo < 2 ^ 62 ∧ -(2 ^ 62) ≤ hi ∧ hi < 2 ^ 62 then some ((List.range (hi - lo).toNat).map fun (k : Nat) => .int (lo + (k : Int))) else none
mutual
/-- a value put to a target -/
def asgT : Tg → T → Slots → Option Slots
  | .nm i, t, σ => some (σ.set i (some (.v t)))
  | .tp l, .tup ts, σ => asgTs l ts σ
  | .tp l, .lst ts, σ => asgTs l ts σ
  | .tp _, _, _ => none
def asgTs : List Tg → List T → Slots → Option Slots
  | [], [], σ => some σ
  | g :: l, t :: ts, σ => match asgT g t σ with
    | some σ1 => asgTs l ts σ1
    | none => none
  | _, _, _ => none
end
mutual
def Tg.ixs : Tg → List Nat
  | .nm i => [i]
  | .tp l => ixss l
def ixss : List Tg → List Nat
  | [] => []
  | g :: l => g.ixs ++ ixss l
end
def wipeT (σ : Slots) : List Nat → Slots
  | [] => σ
  | v :: vs => (wipeT σ vs).set v none

structure Ctx where
  call : Nat → List T → Hs → Out R
  gv : Nat → Option T
  ix : Str → Option Nat
  wd : Str → Str → Option T
/-- no exception -/
def noex {α : Type} : Out α → Out α
  | .ok a h => .ok a h
  | _ => .bad
/-- operations on what expressions give -/
def opL (σ : Slots) (op : Operator) (x y : R) (h : Hs) : Out R := match peek σ h x, peek σ h y with
  | some t, some u => lift (opR op t u) h
  | _, _ => .bad
def truL (σ : Slots) (x : R) (h : Hs) : Out Bool := match peek σ h x with
  | some t => lift (truT t) h
  | none => .bad
def cmpL (σ : Slots) (op : CmpOp) (x y : R) (h : Hs) : Out Bool := match peek σ h x, peek σ h y with
  | some t, some u => lift (cmpR op t u) h
  | _, _ => .bad
def ixL (wd : Str → Str → Option T) (σ : Slots) (x y : R) (h : Hs) : Out R := match x, y with
  | .v (.gl g), .v (.str z) => lift ((wd g z).map .v) h
  | _, _ => match peek σ h x, y with
    | some t, .v u => lift ((ixR t u).map .v) h
    | _, _ => .bad
def peeks (σ : Slots) (h : Hs) : List R → Option (List T)
  | [] => some []
  | r :: rs => match peek σ h r, peeks σ h rs with
    | some t, some ts => some (t :: ts)
    | _, _ => none
/-- what is walked: its items; the object that must stay as it is meanwhile -/
structure Itm where
  ts : List T
  g : Option (Nat × HOb)
def gdB (g : Option (Nat × HOb)) (h : Hs) : Bool := match g with
  | none => true
  | some (n, o) => match h[n]? with
    | some o' => o'.beq o
    | none => false
/-- what a value is walked by -/
def walkT (h : Hs) : T → Option Itm
  | .ref n => (match h[n]? with
    | some (.lst l) => some ⟨l, some (n, .lst l)⟩
    | _ => none)
  | t => (itemsT t).map fun l => ⟨l, none⟩
def walkL (own : Bool) (σ : Slots) (h : Hs) : R → Option Itm
  | .v t => walkT h t
  | .al l => some ⟨l, none⟩
  | .bw i => if own then (match σ[i]? with
    | some (some (.al l)) => some ⟨l, none⟩
    | _ => none) else none
/-- over the items of a comprehension -/
def lcL (f : T → Hs → Out (Option T)) (g : Option (Nat × HOb)) : List T → List T → Hs → Out (List T)
  | [], acc, h => if gdB g h then .ok acc h else .bad
  | x :: xs, acc, h => if gdB g h then (f x h).bind fun o h1 => match o with
    | some y => if acc.length < SL then lcL f g xs (acc ++ [y]) h1 else .bad
    | none => lcL f g xs acc h1 else .bad
/-- ints, each once -/
def nubI (l : List Int) : List Int := l.foldl (fun σ k => if σ.any (· == k) then σ else σ ++ [k]) []
/-- what an operation gives -/
def opX (σ : Slots) : Op → List R → Hs → Out R
  | .rev, [r], h => (match peek σ h r with
    | some (.lst l) => .ok (.al l.reverse) h
    | some (.slst l) => .ok (.al l.reverse) h
    | _ => .bad)
  | .lns, [r], h => (match peek σ h r with
    | some (.lst l) => lift ((intsOf l).bind fun ns => if ns.length ≤ 4000 then some (.v (.int (nubI ns).length)) else none) h
    | _ => .bad)
  | .fdv, [.v (.int i), .v (.int j)], h => if j = 0 then .ex (.blt "ZeroDivisionError") h else lift ((fdivT i j).map fun r => .v (.int r)) h
  | _, _, _ => .bad
/-- the place of a thing in a list -/
def idxT (t : T) (l : List T) : Option Nat := match toD t, toDs l with
  | some d, some ds => if SeqAt.shaped d && SeqAt.shaped (.list ds) then ds.findIdx? fun z => PyData.eqv z d else none
  | _, _ => none
/-- has it the method? -/
def mtOk (σ : Slots) (h : Hs) (m : Mt) (x : R) : Bool := match m with
  | .index => (match peek σ h x with
    | some (.lst _) => true
    | some (.slst _) => true
    | _ => false)
  | .get => (match peek σ h x with
    | some (.dct _) => true
    | _ => false)
  | .reverse => (match x with
    | .v (.ref _) => (match peek σ h x with
      | some (.lst _) => true
      | _ => false)
    | _ => false)
/-- what a method gives -/
def mtX (σ : Slots) (x : R) : Mt → List R → Hs → Out R
  | .index, [y], h => (match peek σ h x, peek σ h y with
    | some (.lst l), some t => lift ((idxT t l).map fun (j : Nat) => .v (.int j)) h
    | some (.slst l), some t => lift ((idxT t l).map fun (j : Nat) => .v (.int j)) h
    | _, _ => .bad)
  | .get, [.v y, z], h => (match peek σ h x, keyT y with
    | some (.dct l), some k => (match lookT l k with
      | some t => .ok (.v t) h
      | none => .ok z h)
    | _, _ => .bad)
  | .reverse, [], h => (match x with
    | .v (.ref n) => (match h[n]? with
      | some (.lst l) => .ok (.v .non) (h.set n (.lst l.reverse))
      | _ => .bad)
    | _ => .bad)
  | _, _, _ => .bad
mutual
def evE (Γ : Ctx) : E → Slots → Hs → Out R
  | .c k, _, h => .ok (.v k.t) h
  | .var i, σ, h => match σ[i]? with
    | some (some (.v t)) => .ok (.v t) h
    | some (some (.al _)) => .ok (.bw i) h
    | _ => .bad
  | .gl x, _, h => lift ((Γ.gv x).map .v) h
  | .bin op a b, σ, h => (evE Γ a σ h).bind fun x h1 => (evE Γ b σ h1).bind fun y h2 => opL σ op x y h2
  | .neg a, σ, h => (evE Γ a σ h).bind fun x h1 => match x with
    | .v (.int i) => .ok (.v (.int (-i))) h1
    | _ => .bad
  | .not a, σ, h => (evE Γ a σ h).bind fun x h1 => (truL σ x h1).bind fun b h2 => .ok (.v (.bl (!b))) h2
  | .bop op es, σ, h => evB Γ op es σ h
  | .cmp op a b, σ, h => (evE Γ a σ h).bind fun x h1 => (evE Γ b σ h1).bind fun y h2 => (cmpL σ op x y h2).bind fun k h3 => .ok (.v (.bl k)) h3
  | .ch op op' a b c, σ, h => (evE Γ a σ h).bind fun x h1 => (evE Γ b σ h1).bind fun y h2 => (cmpL σ op x y h2).bind fun k h3 =>
      if k then (evE Γ c σ h3).bind fun z h4 => (cmpL σ op' y z h4).bind fun k' h5 => .ok (.v (.bl k')) h5 else .ok (.v (.bl false)) h3
  | .ife c a b, σ, h => (evC Γ c σ h).bind fun k h1 => if k then evE Γ a σ h1 else evE Γ b σ h1
  | .tup es, σ, h => (evEs Γ es σ h).bind fun ts h1 => if ts.length ≤ SL then .ok (.v (.tup ts)) h1 else .bad
  | .lst es, σ, h => (evEs Γ es σ h).bind fun ts h1 => if ts.length ≤ SL then .ok (.al ts) h1 else .bad
  | .ix a b, σ, h => (evE Γ a σ h).bind fun x h1 => (evE Γ b σ h1).bind fun y h2 => ixL Γ.wd σ x y h2
  | .sl a lo hi, σ, h => (evE Γ a σ h).bind fun x h1 => (evO Γ lo σ h1).bind fun l h2 => (evO Γ hi σ h2).bind fun u h3 => match peek σ h3 x with
    | some t => lift (slR t l u) h3
    | none => .bad
  | .call f es, σ, h => (evEs Γ es σ h).bind fun ts h1 => Γ.call f ts h1
  | .op o es, σ, h => (evRs Γ es σ h).bind fun rs h1 => opX σ o rs h1
  | .callv i es, σ, h => match σ[i]? with
    | some (some (.v (.gl x))) => (match Γ.ix x with
      | some f => (evEs Γ es σ h).bind fun ts h1 => Γ.call f ts h1
      | none => .bad)
    | _ => .bad
  | .mth m o es, σ, h => (evE Γ o σ h).bind fun x h1 => if mtOk σ h1 m x then (evRs Γ es σ h1).bind fun rs h2 => mtX σ x m rs h2 else .bad
  | .dsp es, σ, h => (evEs Γ es σ h).bind fun ts h1 => match pairsT ts with
    | some kvs => if kvs.length ≤ 15 ∧ 0 < kvs.length then .ok (.v (.ref h1.length)) (h1 ++ [.dct (mergeT [] kvs)]) else .bad
    | none => .bad
  | .blt f es, σ, h => (evRs Γ es σ h).bind fun rs h1 => lift ((peeks σ h1 rs).bind (bltR f)) h1
  | .lc elt tg it cond, σ, h => (evIt Γ true it σ h).bind fun p h1 =>
      (lcL (fun x h' => noex (match asgT tg x (wipeT σ tg.ixs) with
        | some σ2 => (evC Γ cond σ2 h').bind fun b h2 => if b then (evE Γ elt σ2 h2).bind fun r h3 => lift ((frz r).map some) h3 else .ok none h2
        | none => .bad)) p.g p.ts [] h1).bind fun l h2 => .ok (.al l) h2
/-- and, or as values -/
def evB (Γ : Ctx) (op : BoolOp) : List E → Slots → Hs → Out R
  | [], _, _ => .bad
  | e :: es, σ, h => if es.isEmpty then evE Γ e σ h else (evE Γ e σ h).bind fun x h1 => (truL σ x h1).bind fun k h2 =>
      if k == (op == .Or) then .ok x h2 else evB Γ op es σ h2
/-- a test -/
def evC (Γ : Ctx) : C → Slots → Hs → Out Bool
  | .yes, _, h => .ok true h
  | .t e, σ, h => (evE Γ e σ h).bind fun x h1 => truL σ x h1
  | .not c, σ, h => (evC Γ c σ h).bind fun b h1 => .ok (!b) h1
  | .bop op cs, σ, h => evCs Γ op cs σ h
def evCs (Γ : Ctx) (op : BoolOp) : List C → Slots → Hs → Out Bool
  | [], _, _ => .bad
  | c :: cs, σ, h => if cs.isEmpty then evC Γ c σ h else (evC Γ c σ h).bind fun k h1 =>
      if k == (op == .Or) then .ok k h1 else evCs Γ op cs σ h1
/-- items that are kept -/
def evEs (Γ : Ctx) : List E → Slots → Hs → Out (List T)
  | [], _, h => .ok [] h
  | e :: es, σ, h => (evE Γ e σ h).bind fun x h1 => match frz x with
    | some t => (evEs Γ es σ h1).bind fun ts h2 => .ok (t :: ts) h2
    | none => .bad
/-- what some expressions give -/
def evRs (Γ : Ctx) : List E → Slots → Hs → Out (List R)
  | [], _, h => .ok [] h
  | e :: es, σ, h => (evE Γ e σ h).bind fun x h1 => (evRs Γ es σ h1).bind fun xs h2 => .ok (x :: xs) h2
/-- a part of a slice -/
def evO (Γ : Ctx) : O → Slots → Hs → Out (Option Int)
  | .no, _, h => .ok none h
  | .at e, σ, h => (evE Γ e σ h).bind fun x h1 => match x with
    | .v (.int i) => .ok (some i) h1
    | _ => .bad
/-- what is walked -/
def evIt (Γ : Ctx) (own : Bool) : It → Slots → Hs → Out Itm
  | .e x, σ, h => (evE Γ x σ h).bind fun r h1 => lift (walkL own σ h1 r) h1
  | .r1 a, σ, h => (evE Γ a σ h).bind fun r h1 => match r with
    | .v (.int j) => lift ((rngT 0 j).map fun l => ⟨l, none⟩) h1
    | _ => .bad
  | .r2 a b, σ, h => (evE Γ a σ h).bind fun r h1 => (evE Γ b σ h1).bind fun s h2 => match r, s with
    | .v (.int i), .v (.int j) => lift ((rngT i j).map fun l => ⟨l, none⟩) h2
    | _, _ => .bad
end

inductive Fl where
  | nx | brk | ct | ret (r : R)
/-- how a statement ends -/
inductive SO where
  | ok (f : Fl) (σ : Slots) (h : Hs) | ex (x : Xn) (σ : Slots) (h : Hs) | bad
/-- behind an expression -/
def sb {α : Type} (σ : Slots) : Out α → (α → Hs → SO) → SO
  | .ok a h, k => k a h
  | .ex x h, _ => .ex x σ h
  | .bad, _ => .bad
@[simp] theorem sb_ok {α : Type} (σ : Slots) (a : α) (h : Hs) (k : α → Hs → SO) : sb σ (.ok a h) k = k a h := (rfl)
@[simp] theorem sb_ex {α : Type} (σ : Slots) (x : Xn) (h : Hs) (k : α → Hs → SO) : sb σ (.ex x h : Out α) k = .ex x σ h := (rfl)
@[simp] theorem sb_bad {α : Type} (σ : Slots) (k : α → Hs → SO) : sb σ (.bad : Out α) k = .bad := (rfl)
/-- behind a statement that goes on -/
def SO.seq : SO → (Slots → Hs → SO) → SO
  | .ok .nx σ h, k => k σ h
  | o, _ => o
@[simp] theorem SO.seq_nx (σ : Slots) (h : Hs) (k : Slots → Hs → SO) : (SO.ok .nx σ h).seq k = k σ h := (rfl)
@[simp] theorem SO.seq_ret (r : R) (σ : Slots) (h : Hs) (k : Slots → Hs → SO) : (SO.ok (.ret r) σ h).seq k = .ok (.ret r) σ h := (rfl)
@[simp] theorem SO.seq_brk (σ : Slots) (h : Hs) (k : Slots → Hs → SO) : (SO.ok .brk σ h).seq k = .ok .brk σ h := (rfl)
@[simp] theorem SO.seq_ct (σ : Slots) (h : Hs) (k : Slots → Hs → SO) : (SO.ok .ct σ h).seq k = .ok .ct σ h := (rfl)
@[simp] theorem SO.seq_ex (x : Xn) (σ : Slots) (h : Hs) (k : Slots → Hs → SO) : (SO.ex x σ h).seq k = .ex x σ h := (rfl)
@[simp] theorem SO.seq_bad (k : Slots → Hs → SO) : SO.bad.seq k = .bad := (rfl)
/-- behind a loop's turn -/
def SO.turn : SO → (Slots → Hs → SO) → SO
  | .ok .nx σ h, k => k σ h
  | .ok .ct σ h, k => k σ h
  | .ok .brk σ h, _ => .ok .nx σ h
  | o, _ => o
@[simp] theorem SO.turn_nx (σ : Slots) (h : Hs) (k : Slots → Hs → SO) : (SO.ok .nx σ h).turn k = k σ h := (rfl)
@[simp] theorem SO.turn_ret (r : R) (σ : Slots) (h : Hs) (k : Slots → Hs → SO) : (SO.ok (.ret r) σ h).turn k = .ok (.ret r) σ h := (rfl)
@[simp] theorem SO.turn_brk (σ : Slots) (h : Hs) (k : Slots → Hs → SO) : (SO.ok .brk σ h).turn k = .ok .nx σ h := (rfl)
@[simp] theorem SO.turn_ct (σ : Slots) (h : Hs) (k : Slots → Hs → SO) : (SO.ok .ct σ h).turn k = k σ h := (rfl)
@[simp] theorem SO.turn_ex (x : Xn) (σ : Slots) (h : Hs) (k : Slots → Hs → SO) : (SO.ex x σ h).turn k = .ex x σ h := (rfl)
@[simp] theorem SO.turn_bad (k : Slots → Hs → SO) : SO.bad.turn k = .bad := (rfl)
def forL (body : T → Slots → Hs → SO) (g : Option (Nat × HOb)) : List T → Slots → Hs → SO
  | [], σ, h => if gdB g h then .ok .nx σ h else .bad
  | x :: xs, σ, h => if gdB g h then (body x σ h).turn (forL body g xs) else .bad
def whlL (test : Slots → Hs → Out Bool) (body : Slots → Hs → SO) : Nat → Slots → Hs → SO
  | 0, _, _ => .bad
  | n + 1, σ, h => sb σ (test σ h) fun b h1 => if b then (body σ h1).turn (whlL test body n) else .ok .nx σ h1
abbrev whlMost : Nat := 1000000000
/-- what is taken apart is looked at -/
def tgSee (tg : Tg) (h : Hs) (t : T) : T := match tg with
  | .nm _ => t
  | .tp _ => seen h t
/-- no exception -/
def SO.noex : SO → SO
  | .ex _ _ _ => .bad
  | o => o
@[simp] theorem SO.noex_ok (f : Fl) (σ : Slots) (h : Hs) : (SO.ok f σ h).noex = .ok f σ h := (rfl)
/-- behind a try's body -/
def SO.catch (x : String) : SO → (Slots → Hs → SO) → SO
  | .ex (.blt n) σ h, k => if n = x then (k σ h).noex else .bad
  | .ex _ _ _, _ => .bad
  | o, _ => o
@[simp] theorem SO.catch_ok (x : String) (f : Fl) (σ : Slots) (h : Hs) (k : Slots → Hs → SO) : (SO.ok f σ h).catch x k = .ok f σ h := (rfl)
@[simp] theorem SO.catch_bad (x : String) (k : Slots → Hs → SO) : SO.bad.catch x k = .bad := (rfl)
theorem SO.catch_ex (x n : String) (σ : Slots) (h : Hs) (k : Slots → Hs → SO) : (SO.ex (.blt n) σ h).catch x k = if n = x then (k σ h).noex else .bad := (rfl)
def putR : R → Option Sl
  | .v t => some (.v t)
  | .al l => some (.al l)
  | .bw _ => none
/-- a store into a list object -/
def setL (r : R) (x y : R) (h : Hs) : Option Hs := match frz r, x, y with
  | some t, .v (.ref n), .v k => (match h[n]?, k with
    | some (.lst l), .int k => (ixN l.length k).map fun j => h.set n (.lst (l.set j t))
    | some (.dct l), k => (keyT k).bind fun k => if l.length < SL then some (h.set n (.dct (putT l k t))) else none
    | _, _ => none)
  | _, _, _ => none
def liftS (o : Option Slots) (h : Hs) : SO := match o with
  | some σ => .ok .nx σ h
  | none => .bad
@[simp] theorem liftS_some (σ : Slots) (h : Hs) : liftS (some σ) h = .ok .nx σ h := (rfl)
@[simp] theorem liftS_none (h : Hs) : liftS none h = .bad := (rfl)
def retS (σ : Slots) (r : R) (h : Hs) : SO := match r with
  | .bw _ => .bad
  | r => .ok (.ret r) σ h
def appS (σ : Slots) (i : Nat) (r : R) (h : Hs) : SO := match frz r, σ[i]? with
  | some t, some (some (.al l)) => if l.length < SL then .ok .nx (σ.set i (some (.al (l ++ [t])))) h else .bad
  | some t, some (some (.v (.ref n))) => (match h[n]? with
    | some (.lst l) => if l.length < SL then .ok .nx σ (h.set n (.lst (l ++ [t]))) else .bad
    | _ => .bad)
  | _, _ => .bad
/-- name op= value -/
def augT : Operator → T → T → Option T
  | .Add, .int i, .int j => some (.int (i + j))
  | .Sub, .int i, .int j => some (.int (i - j))
  | .Mult, .int i, .int j => if mulOk i j then some (.int (i * j)) else none
  | .Add, .str a, .str b => if a.length + b.length ≤ SL then some (.str (a ++ b)) else none
  | _, _, _ => none
def augS (σ : Slots) (i : Nat) (op : Operator) (t : T) (r : R) (h : Hs) : SO := match r with
  | .v u => liftS ((augT op t u).map fun z => σ.set i (some (.v z))) h
  | _ => .bad
def appOk (h : Hs) : Option (Option Sl) → Bool
  | some (some (.al _)) => true
  | some (some (.v (.ref n))) => (match h[n]? with
    | some (.lst _) => true
    | _ => false)
  | _ => false
mutual
def evS (Γ : Ctx) : S → Slots → Hs → SO
  | .asg i e, σ, h => sb σ (evE Γ e σ h) fun r h1 => liftS ((putR r).map fun s => σ.set i (some s)) h1
  | .asgT tg e, σ, h => sb σ (evE Γ e σ h) fun r h1 => liftS ((frz r).bind fun t => asgT tg (tgSee tg h1 t) σ) h1
  | .setIx o i e, σ, h => sb σ (evE Γ e σ h) fun r h1 => sb σ (evE Γ o σ h1) fun x h2 => sb σ (evE Γ i σ h2) fun y h3 => match setL r x y h3 with
    | some h4 => .ok .nx σ h4
    | none => .bad
  | .expr e, σ, h => sb σ (evE Γ e σ h) fun _ h1 => .ok .nx σ h1
  | .ret e, σ, h => sb σ (evE Γ e σ h) fun r h1 => retS σ r h1
  | .retS i, σ, h => match σ[i]? with
    | some (some (.al l)) => .ok (.ret (.al l)) (σ.set i none) h
    | _ => .bad
  | .retN, σ, h => .ok (.ret (.v .non)) σ h
  | .ife c a b, σ, h => sb σ (evC Γ c σ h) fun k h1 => if k then evSs Γ a σ h1 else evSs Γ b σ h1
  | .for tg it body, σ, h => sb σ (evIt Γ false it σ h) fun p h1 => forL (fun x σ' h' => (liftS (asgT tg x σ') h').seq (evSs Γ body)) p.g p.ts σ h1
  | .whl c body, σ, h => whlL (evC Γ c) (evSs Γ body) whlMost σ h
  | .brk, σ, h => .ok .brk σ h
  | .cnt, σ, h => .ok .ct σ h
  | .pass, σ, h => .ok .nx σ h
  | .app i e, σ, h => if appOk h σ[i]? then sb σ (evE Γ e σ h) fun r h1 => appS σ i r h1 else .bad
  | .par2 i j a b, σ, h => sb σ (evE Γ a σ h) fun r h1 => sb σ (evE Γ b σ h1) fun s h2 => liftS ((putR r).bind fun x => (putR s).map fun y => (σ.set i (some x)).set j (some y)) h2
  | .par3 i j l a b c, σ, h => sb σ (evE Γ a σ h) fun r h1 => sb σ (evE Γ b σ h1) fun s h2 => sb σ (evE Γ c σ h2) fun t h3 =>
      liftS ((putR r).bind fun x => (putR s).bind fun y => (putR t).map fun z => ((σ.set i (some x)).set j (some y)).set l (some z)) h3
  | .fz i, σ, h => match σ[i]? with
    | some (some (.al l)) => .ok .nx (σ.set i (some (.v (.lst l)))) h
    | _ => .bad
  | .pr i, σ, h => match σ[i]? with
    | some (some (.al l)) => .ok .nx (σ.set i (some (.v (.ref h.length)))) (h ++ [.lst l])
    | _ => .bad
  | .try1 x body suite, σ, h => (evSs Γ body σ h).catch x (evSs Γ suite)
  | .aug i op e, σ, h => match σ[i]? with
    | some (some (.v t)) => sb σ (evE Γ e σ h) fun r h1 => augS σ i op t r h1
    | _ => .bad
def evSs (Γ : Ctx) : List S → Slots → Hs → SO
  | [], σ, h => .ok .nx σ h
  | s :: ss, σ, h => (evS Γ s σ h).seq (evSs Γ ss)
end
/-- a def: how many parameters, how many names, its body -/
structure FD where
  ps : Nat
  n : Nat
  body : List S
def startT (n : Nat) (ts : List T) : Slots := ts.map (fun t => some (.v t)) ++ List.replicate (n - ts.length) none
def SO.out : SO → Out R
  | .ok (.ret r) _ h => .ok r h
  | .ok .nx _ h => .ok (.v .non) h
  | .ex x _ h => .ex x h
  | _ => .bad
def runD (Γ : Ctx) (d : FD) (ts : List T) (h : Hs) : Out R :=
  if ts.length = d.ps then (evSs Γ d.body (startT d.n ts) h).out else .bad
/-- a module's text: its defs, its values, its defs by name -/
structure Pg where
  ds : List FD
  gv : Nat → Option T
  ix : Str → Option Nat
  wd : Str → Str → Option T
/-- the calls, by levels -/
def callK (P : Pg) : Nat → Nat → List T → Hs → Out R
  | 0, _, _, _ => .bad
  | k + 1, f, ts, h => match P.ds[f]? with
    | some d => runD ⟨callK P k, P.gv, P.ix, P.wd⟩ d ts h
    | none => .bad
end VY
namespace VY
open PySem PySem.Spec
open PyProof.Rows hiding St
open L2

/-- what the module's names stand for, with the program and its world -/
structure Mg where
  f : Str → Option Value
  P : Program
  w : World
instance : CoeFun Mg fun _ => Str → Option Value := ⟨Mg.f⟩
def StL (K : PySem.W.Frag) (a : Addr) (xs : List V) : Prop :=
  ∃ (o : Obj) (its : Array Value) (n : Nat), K.lookup a = some o ∧ o.cls = .type "list" ∧ o.dict = none ∧ o.data = .seq its n ∧ its.size ≤ sizeLine ∧ Vals xs its.toList
def StT (K : PySem.W.Frag) (a : Addr) (xs : List V) : Prop :=
  ∃ (o : Obj) (its : Array Value) (n : Nat), K.lookup a = some o ∧ o.cls = .type "tuple" ∧ o.data = .seq its n ∧ its.size ≤ sizeLine ∧ Vals xs its.toList
@[reducible] def _root_.L2.Cx.M (X : L2.Cx) : Mg := ⟨X.mg, X.prog, X.w⟩
/-- the address of the heap's n-th object is live -/
def Live (ρ : List Addr) (h : Hs) (a : Addr) : Prop := ∃ (n : Nat) (o : HOb), ρ[n]? = some a ∧ h[n]? = some o ∧ o ≠ HOb.dead
section
variable (K : PySem.W.Frag) (mg : Mg)
mutual
/-- v stands for t: ρ the objects' addresses, I the addresses that never change -/
def Rep (ρ : List Addr) (I : Addr → Prop) (H : Hp) : V → T → Prop
  | v, .non => v = .non
  | v, .bl b => v = .bl b
  | v, .int i => v = .int i
  | v, .str s => v = .str s
  | v, .ty n => v = .ty n
  | v, .gl x => ∃ a, v = .ref a ∧ mg x = some (.ref a)
  | v, .ref n => ∃ a, v = .ref a ∧ ρ[n]? = some a
  | v, .tup l => ∃ a vs, v = .ref a ∧ ((I a ∧ Rd H a (.tup vs)) ∨ StT K a vs) ∧ Reps ρ I H vs l
  | v, .lst l => ∃ a vs, v = .ref a ∧ I a ∧ H a = some (.lst vs) ∧ Reps ρ I H vs l
  | v, .slst l => ∃ a vs, v = .ref a ∧ ((I a ∧ Rd H a (.lst vs)) ∨ StL K a vs) ∧ Reps ρ I H vs l
  | v, .dct l => ∃ a o vs, v = .ref a ∧ I a ∧ H a = some (.frz o (.dK vs)) ∧ RepD ρ I H vs l
  | v, .ins c l => ∃ a C dx vs, v = .ref a ∧ I a ∧ mg c = some (.ref C) ∧ H a = some (.ins C dx vs) ∧ RepF ρ I H vs l
def Reps (ρ : List Addr) (I : Addr → Prop) (H : Hp) : List V → List T → Prop
  | [], [] => True
  | v :: vs, t :: l => Rep ρ I H v t ∧ Reps ρ I H vs l
  | _, _ => False
def RepD (ρ : List Addr) (I : Addr → Prop) (H : Hp) : List (Key × V) → List (Key × T) → Prop
  | [], [] => True
  | v :: vs, (k, t) :: l => v.1 = k ∧ Rep ρ I H v.2 t ∧ RepD ρ I H vs l
  | _, _ => False
def RepF (ρ : List Addr) (I : Addr → Prop) (H : Hp) : List (Str × V) → List (Str × T) → Prop
  | [], [] => True
  | v :: vs, (k, t) :: l => v.1 = k ∧ Rep ρ I H v.2 t ∧ RepF ρ I H vs l
  | _, _ => False
end
def RepO (ρ : List Addr) (I : Addr → Prop) (H : Hp) (a : Addr) : HOb → Prop
  | .lst l => ∃ vs, H a = some (.lst vs) ∧ Reps K mg ρ I H vs l
  | .dct l => ∃ vs, H a = some (.dK vs) ∧ RepD K mg ρ I H vs l
  | .ins c l => ∃ C dx vs, mg c = some (.ref C) ∧ H a = some (.ins C dx vs) ∧ RepF K mg ρ I H vs l
  | .set l => l.Nodup ∧ H a = some (SetK mg.P mg.w a (fun k => l.any fun k2 => decide (k2 = k)) l.length)
  | .dead => True
/-- the small heap in the hand layer's -/
structure HR (ρ : List Addr) (I : Addr → Prop) (h : Hs) (H : Hp) : Prop where
  len : ρ.length = h.length
  inj : ∀ (n m : Nat) (a : Addr) (o o' : HOb), ρ[n]? = some a → ρ[m]? = some a → h[n]? = some o → h[m]? = some o' → o ≠ .dead → o' ≠ .dead → n = m
  dis : ∀ a, Live ρ h a → ¬ I a
  idom : ∀ a, I a → (H a).isSome
  obj : ∀ (n : Nat) (o : HOb) (a : Addr), h[n]? = some o → ρ[n]? = some a → RepO K mg ρ I H a o
end
/-- what an expression may do to the heap -/
structure Ext (ρ : List Addr) (I : Addr → Prop) (h : Hs) (H : Hp) (ρ' : List Addr) (I' : Addr → Prop) (h' : Hs) (H' : Hp) : Prop where
  pre : ∀ (n : Nat) (a : Addr), ρ[n]? = some a → ρ'[n]? = some a
  sub : ∀ a, I a → I' a
  keep : ∀ a, (H a).isSome → ¬ Live ρ h a → H' a = H a
  dom : ∀ a, (H a).isSome → (H' a).isSome
  inew : ∀ a, I' a → I a ∨ H a = none ∨ Live ρ h a
  lnew : ∀ a, Live ρ' h' a → Live ρ h a ∨ H a = none
theorem isSome_of {α : Type} {o : Option α} {x : α} (h : o = some x) : o.isSome := by rw [h]; rfl
theorem not_none {α : Type} {o : Option α} (h : o.isSome) (e : o = none) : False := by rw [e] at h; cases h
section
variable {K : PySem.W.Frag} {mg : Mg} {ρ ρ' ρ'' : List Addr} {I I' I'' : Addr → Prop} {h h' h'' : Hs} {H H' H'' : Hp}
theorem Ext.refl : Ext ρ I h H ρ I h H := ⟨fun _ _ e => e, fun _ e => e, fun _ _ _ => rfl, fun _ e => e, fun _ e => .inl e, fun _ e => .inl e⟩
theorem Ext.trans (a : Ext ρ I h H ρ' I' h' H') (b : Ext ρ' I' h' H' ρ'' I'' h'' H'') : Ext ρ I h H ρ'' I'' h'' H'' where
  pre := fun n x e => b.pre n x (a.pre n x e)
  sub := fun x e => b.sub x (a.sub x e)
  keep := fun x d l => by
    have l' : ¬ Live ρ' h' x := fun z => (a.lnew x z).elim l (not_none d)
    rw [b.keep x (a.dom x d) l', a.keep x d l]
  dom := fun x d => b.dom x (a.dom x d)
  inew := fun x i => by
    rcases b.inew x i with z | z | z
    · exact a.inew x z
    · by_cases d : (H x).isSome
      · exact (not_none (a.dom x d) z).elim
      · exact .inr (.inl (by cases e : H x with | none => rfl | some _ => rw [e] at d; exact (d rfl).elim))
    · rcases a.lnew x z with q | q
      · exact .inr (.inr q)
      · exact .inr (.inl q)
  lnew := fun x l => by
    rcases b.lnew x l with z | z
    · exact a.lnew x z
    · by_cases d : (H x).isSome
      · exact (not_none (a.dom x d) z).elim
      · exact .inr (by cases e : H x with | none => rfl | some _ => rw [e] at d; exact (d rfl).elim)
theorem Ext.ikeep (x : Ext ρ I h H ρ' I' h' H') (r : HR K mg ρ I h H) {a : Addr} (i : I a) : H' a = H a := x.keep a (r.idom a i) fun l => r.dis a l i
/-- what never changes is kept -/
structure Kp (ρ : List Addr) (I : Addr → Prop) (H : Hp) (ρ' : List Addr) (I' : Addr → Prop) (H' : Hp) : Prop where
  pre : ∀ (n : Nat) (a : Addr), ρ[n]? = some a → ρ'[n]? = some a
  sub : ∀ a, I a → I' a
  keep : ∀ a, I a → H' a = H a
theorem Ext.kp (x : Ext ρ I h H ρ' I' h' H') (r : HR K mg ρ I h H) : Kp ρ I H ρ' I' H' := ⟨x.pre, x.sub, fun _ i => x.ikeep r i⟩
theorem Rd.keep {a : Addr} {u : HO} (e : H' a = H a) (r : Rd H a u) : Rd H' a u := by
  rcases r with r | ⟨o, r⟩
  · exact .inl (e.trans r)
  · exact .inr ⟨o, e.trans r⟩
mutual
theorem Rep.mono (k : Kp ρ I H ρ' I' H') : ∀ {v : V} {t : T}, Rep K mg ρ I H v t → Rep K mg ρ' I' H' v t
  | _, .non, e => e
  | _, .bl _, e => e
  | _, .int _, e => e
  | _, .str _, e => e
  | _, .ty _, e => e
  | _, .gl _, e => e
  | _, .ref _, ⟨a, e, r⟩ => ⟨a, e, k.pre _ _ r⟩
  | _, .tup l, ⟨a, vs, e, r, q⟩ => ⟨a, vs, e, r.imp (fun z => ⟨k.sub a z.1, Rd.keep (k.keep a z.1) z.2⟩) id, Reps.mono k q⟩
  | _, .lst l, ⟨a, vs, e, i, r, q⟩ => ⟨a, vs, e, k.sub a i, (k.keep a i).trans r, Reps.mono k q⟩
  | _, .slst l, ⟨a, vs, e, r, q⟩ => ⟨a, vs, e, r.imp (fun z => ⟨k.sub a z.1, Rd.keep (k.keep a z.1) z.2⟩) id, Reps.mono k q⟩
  | _, .dct l, ⟨a, o, vs, e, i, r, q⟩ => ⟨a, o, vs, e, k.sub a i, (k.keep a i).trans r, RepD.mono k q⟩
  | _, .ins c l, ⟨a, C, dx, vs, e, i, m, r, q⟩ => ⟨a, C, dx, vs, e, k.sub a i, m, (k.keep a i).trans r, RepF.mono k q⟩
theorem Reps.mono (k : Kp ρ I H ρ' I' H') : ∀ {vs : List V} {l : List T}, Reps K mg ρ I H vs l → Reps K mg ρ' I' H' vs l
  | [], [], _ => trivial
  | _ :: _, _ :: _, ⟨a, b⟩ => ⟨Rep.mono k a, Reps.mono k b⟩
theorem RepD.mono (k : Kp ρ I H ρ' I' H') : ∀ {vs : List (Key × V)} {l : List (Key × T)}, RepD K mg ρ I H vs l → RepD K mg ρ' I' H' vs l
  | [], [], _ => trivial
  | _ :: _, (_, _) :: _, ⟨e, a, b⟩ => ⟨e, Rep.mono k a, RepD.mono k b⟩
theorem RepF.mono (k : Kp ρ I H ρ' I' H') : ∀ {vs : List (Str × V)} {l : List (Str × T)}, RepF K mg ρ I H vs l → RepF K mg ρ' I' H' vs l
  | [], [], _ => trivial
  | _ :: _, (_, _) :: _, ⟨e, a, b⟩ => ⟨e, Rep.mono k a, RepF.mono k b⟩
end
theorem Reps.length : ∀ {vs : List V} {l : List T}, Reps K mg ρ I H vs l → vs.length = l.length
  | [], [], _ => rfl
  | _ :: _, _ :: _, ⟨_, b⟩ => congrArg (· + 1) (Reps.length b)
theorem Reps.append : ∀ {vs ws : List V} {l m : List T}, Reps K mg ρ I H vs l → Reps K mg ρ I H ws m → Reps K mg ρ I H (vs ++ ws) (l ++ m)
  | [], _, [], _, _, b => b
  | _ :: _, _, _ :: _, _, ⟨x, a⟩, b => ⟨x, Reps.append a b⟩
theorem Reps.get : ∀ {vs : List V} {l : List T} {i : Nat} {t : T}, Reps K mg ρ I H vs l → l[i]? = some t → ∃ v, vs[i]? = some v ∧ Rep K mg ρ I H v t
  | [], [], _, _, _, e => by simp at e
  | v :: _, _ :: _, 0, _, ⟨x, _⟩, e => by simp at e; subst e; exact ⟨v, rfl, x⟩
  | _ :: _, _ :: _, i + 1, t, ⟨_, b⟩, e => by
    obtain ⟨v, q, r⟩ := Reps.get (i := i) (t := t) b (by simpa using e)
    exact ⟨v, by simpa using q, r⟩
theorem Reps.getV : ∀ {vs : List V} {l : List T} {i : Nat} {v : V}, Reps K mg ρ I H vs l → vs[i]? = some v → ∃ t, l[i]? = some t ∧ Rep K mg ρ I H v t
  | [], [], _, _, _, e => by simp at e
  | _ :: _, t :: _, 0, _, ⟨x, _⟩, e => by simp at e; subst e; exact ⟨t, rfl, x⟩
  | _ :: _, _ :: _, i + 1, v, ⟨_, b⟩, e => by
    obtain ⟨t, q, r⟩ := Reps.getV (i := i) (v := v) b (by simpa using e)
    exact ⟨t, by simpa using q, r⟩
theorem Reps.set {v : V} {t : T} (x : Rep K mg ρ I H v t) : ∀ {vs : List V} {l : List T} (i : Nat), Reps K mg ρ I H vs l → Reps K mg ρ I H (vs.set i v) (l.set i t)
  | [], [], _, _ => trivial
  | _ :: _, _ :: _, 0, ⟨_, b⟩ => ⟨x, b⟩
  | _ :: _, _ :: _, i + 1, ⟨y, b⟩ => ⟨y, Reps.set x i b⟩
theorem Reps.take : ∀ {vs : List V} {l : List T} (n : Nat), Reps K mg ρ I H vs l → Reps K mg ρ I H (vs.take n) (l.take n)
  | _, _, 0, _ => by simp only [List.take_zero]; exact trivial
  | [], [], _ + 1, _ => trivial
  | _ :: _, _ :: _, n + 1, ⟨x, b⟩ => ⟨x, Reps.take n b⟩
theorem Reps.drop : ∀ {vs : List V} {l : List T} (n : Nat), Reps K mg ρ I H vs l → Reps K mg ρ I H (vs.drop n) (l.drop n)
  | _, _, 0, q => q
  | [], [], _ + 1, _ => trivial
  | _ :: _, _ :: _, n + 1, ⟨_, b⟩ => Reps.drop n b
theorem Reps.cut {vs : List V} {l : List T} (q : Reps K mg ρ I H vs l) (lo hi : Option Int) : Reps K mg ρ I H (cutV vs lo hi) (cutT l lo hi) := by
  unfold cutV cutT
  rw [q.length]
  exact Reps.take _ (Reps.drop _ q)
theorem Reps.rep {vs : List V} {l : List T} (q : Reps K mg ρ I H vs l) : ∀ k : Nat, Reps K mg ρ I H (List.replicate k vs).flatten (List.replicate k l).flatten
  | 0 => trivial
  | k + 1 => by
    rw [List.replicate_succ, List.replicate_succ, List.flatten_cons, List.flatten_cons]
    exact Reps.append q (Reps.rep q k)
theorem Reps.at {vs : List V} {l : List T} {i : Int} {t : T} (q : Reps K mg ρ I H vs l) (e : atI l i = some t) : ∃ v, atI vs i = some v ∧ Rep K mg ρ I H v t := by
  unfold atI at e ⊢
  rw [q.length]
  cases z : ixN l.length i with
  | none => rw [z] at e; cases e
  | some j => rw [z] at e; exact Reps.get q e

/-- the slots -/
structure SR (K : PySem.W.Frag) (mg : Mg) (ρ : List Addr) (I : Addr → Prop) (h : Hs) (H : Hp) (σT : Slots) (σ : St) : Prop where
  len : σT.length = σ.length
  vs : ∀ (i : Nat) (t : T), σT[i]? = some (some (.v t)) → ∃ v, σ[i]? = some (some v) ∧ Rep K mg ρ I H v t
  als : ∀ (i : Nat) (l : List T), σT[i]? = some (some (.al l)) → ∃ a vs, σ[i]? = some (some (.ref a)) ∧ H a = some (.lst vs) ∧ ¬ I a ∧ ¬ Live ρ h a ∧ Reps K mg ρ I H vs l
  adj : ∀ (i j : Nat) (l m : List T) (a : Addr), σT[i]? = some (some (.al l)) → σT[j]? = some (some (.al m)) → σ[i]? = some (some (.ref a)) → σ[j]? = some (some (.ref a)) → i = j
variable {σT : Slots} {σ : St}
theorem live_dec (ρ : List Addr) (h : Hs) (a : Addr) : Live ρ h a ∨ ¬ Live ρ h a := Classical.em _
/-- the slots behind an expression -/
theorem SR.ext (s : SR K mg ρ I h H σT σ) (r : HR K mg ρ I h H) (x : Ext ρ I h H ρ' I' h' H') : SR K mg ρ' I' h' H' σT σ where
  len := s.len
  vs := fun i t e => let ⟨v, q, p⟩ := s.vs i t e; ⟨v, q, p.mono (x.kp r)⟩
  als := fun i l e => by
    obtain ⟨a, vs, q, p, ni, nl, w⟩ := s.als i l e
    refine ⟨a, vs, q, (x.keep a (isSome_of p) nl).trans p, fun z => ?_, fun z => ?_, w.mono (x.kp r)⟩
    · rcases x.inew a z with u | u | u
      · exact ni u
      · rw [u] at p; cases p
      · exact nl u
    · rcases x.lnew a z with u | u
      · exact nl u
      · rw [u] at p; cases p
  adj := s.adj
/-- what an expression gives: H0 the heap at its start -/
def RO (K : PySem.W.Frag) (mg : Mg) (ρ : List Addr) (I : Addr → Prop) (h : Hs) (H : Hp) (H0 : Hp) (σT : Slots) (σ : St) (v : V) : R → Prop
  | .v t => Rep K mg ρ I H v t
  | .al l => ∃ a vs, v = .ref a ∧ H0 a = none ∧ H a = some (.lst vs) ∧ ¬ I a ∧ ¬ Live ρ h a ∧ Reps K mg ρ I H vs l
  | .bw i => σ[i]? = some (some v) ∧ ∃ l, σT[i]? = some (some (.al l))
theorem RO.ext {H0 : Hp} {v : V} {r : R} (o : RO K mg ρ I h H H0 σT σ v r) (hr : HR K mg ρ I h H) (x : Ext ρ I h H ρ' I' h' H') : RO K mg ρ' I' h' H' H0 σT σ v r := by
  cases r with
  | v t => exact Rep.mono (x.kp hr) o
  | al l =>
    obtain ⟨a, vs, e, n, p, ni, nl, w⟩ := o
    refine ⟨a, vs, e, n, (x.keep a (isSome_of p) nl).trans p, fun z => ?_, fun z => ?_, w.mono (x.kp hr)⟩
    · rcases x.inew a z with u | u | u
      · exact ni u
      · rw [u] at p; cases p
      · exact nl u
    · rcases x.lnew a z with u | u
      · exact nl u
      · rw [u] at p; cases p
  | bw i => exact o
/-- started earlier -/
theorem RO.back {H0 H1 : Hp} {v : V} {r : R} (o : RO K mg ρ I h H H1 σT σ v r) (d : ∀ a, (H0 a).isSome → (H1 a).isSome) : RO K mg ρ I h H H0 σT σ v r := by
  cases r with
  | v t => exact o
  | al l =>
    obtain ⟨a, vs, e, n, q⟩ := o
    refine ⟨a, vs, e, ?_, q⟩
    cases z : H0 a with
    | none => rfl
    | some _ => exact (not_none (d a (isSome_of z)) n).elim
  | bw i => exact o
/-- looked at -/
def Pk (K : PySem.W.Frag) (mg : Mg) (ρ : List Addr) (I : Addr → Prop) (H : Hp) (v : V) : T → Prop
  | .lst l => ∃ a vs, v = .ref a ∧ H a = some (.lst vs) ∧ Reps K mg ρ I H vs l
  | .dct l => ∃ a vs, v = .ref a ∧ Rd H a (.dK vs) ∧ RepD K mg ρ I H vs l
  | t => Rep K mg ρ I H v t
theorem Pk.of {v : V} : ∀ {t : T}, Rep K mg ρ I H v t → Pk K mg ρ I H v t
  | .lst _, ⟨a, vs, e, _, r, q⟩ => ⟨a, vs, e, r, q⟩
  | .dct _, ⟨a, o, vs, e, _, r, q⟩ => ⟨a, vs, e, .inr ⟨o, r⟩, q⟩
  | .non, e => e
  | .bl _, e => e
  | .int _, e => e
  | .str _, e => e
  | .ty _, e => e
  | .gl _, e => e
  | .ref _, e => e
  | .tup _, e => e
  | .slst _, e => e
  | .ins _ _, e => e
theorem Pk.seen {v : V} {t : T} (hr : HR K mg ρ I h H) (q : Rep K mg ρ I H v t) : Pk K mg ρ I H v (VY.seen h t) := by
  unfold VY.seen
  split
  · rename_i n
    obtain ⟨a, rfl, ea⟩ := (show ∃ a, v = .ref a ∧ ρ[n]? = some a from q)
    split
    · rename_i l e
      obtain ⟨vs, p, w⟩ := hr.obj n _ a e ea
      exact ⟨a, vs, rfl, p, w⟩
    · rename_i l e
      obtain ⟨vs, p, w⟩ := hr.obj n _ a e ea
      exact ⟨a, vs, rfl, .inl p, w⟩
    · exact ⟨a, rfl, ea⟩
  · exact Pk.of q
theorem RO.pk {H0 : Hp} {v : V} {r : R} {t : T} (o : RO K mg ρ I h H H0 σT σ v r) (s : SR K mg ρ I h H σT σ) (hr : HR K mg ρ I h H) (e : peek σT h r = some t) : Pk K mg ρ I H v t := by
  cases r with
  | v u => cases e; exact Pk.seen hr o
  | al l => cases e; obtain ⟨a, vs, e, _, p, _, _, w⟩ := o; exact ⟨a, vs, e, p, w⟩
  | bw i =>
    obtain ⟨q, l, z⟩ := o
    simp only [peek, z] at e
    cases e
    obtain ⟨a, vs, q', p, _, _, w⟩ := s.als i l z
    rw [q] at q'
    cases q'
    exact ⟨a, vs, rfl, p, w⟩
end
end VY
namespace VY
open PySem PySem.Spec
open PyProof.Rows hiding St
open L2

/-- an exception's class and own dict -/
def XR (K : PySem.W.Frag) (mg : Mg) (ρ : List Addr) (I : Addr → Prop) (H : Hp) (cls : Value) (d : Option Addr) : Xn → Prop
  | .blt n => cls = .type n
  | .own c fs => ∃ C, mg c = some (.ref C) ∧ cls = .ref C ∧ (fs = [] ∨ ∃ dd vs, d = some dd ∧ H dd = some (.xd vs) ∧ vs.map (·.1) = fs.map (·.1) ∧ Reps K mg ρ I H (vs.map (·.2)) (fs.map (·.2)))
/-- behind a part: its end, or its exception -/
def Nx (K : PySem.W.Frag) (mg : Mg) (W : WX) (σ : St) (ρ : List Addr) (I : Addr → Prop) (h : Hs) (H : Hp) {α : Type} (o : Out α) (k : α → Hs → List Addr → (Addr → Prop) → Hp → Prop) : Prop :=
  match o with
  | .ok a h' => ∀ ρ' I' H', Ext ρ I h H ρ' I' h' H' → HR K mg ρ' I' h' H' → k a h' ρ' I' H'
  | .ex x h' => ∀ cls d ρ' I' H', Ext ρ I h H ρ' I' h' H' → HR K mg ρ' I' h' H' → XR K mg ρ' I' H' cls d x → W cls d σ H'
  | .bad => False
section
variable {K : PySem.W.Frag} {mg : Mg} {W : WX} {σ : St} {σT : Slots} {ρ ρ' : List Addr} {I I' : Addr → Prop} {h h' : Hs} {H H' : Hp} {α β : Type}
theorem Nx.bind {o : Out α} {g : α → Hs → Out β} {k : β → Hs → List Addr → (Addr → Prop) → Hp → Prop} (n : Nx K mg W σ ρ I h H (o.bind g) k) :
    Nx K mg W σ ρ I h H o fun a h' ρ' I' H' => Nx K mg W σ ρ' I' h' H' (g a h') k := by
  cases o with
  | ok a h1 =>
    intro ρ1 I1 H1 x1 r1
    have n' : Nx K mg W σ ρ I h H (g a h1) k := n
    cases e : g a h1 with
    | ok b h2 => rw [e] at n'; exact fun ρ2 I2 H2 x2 r2 => n' ρ2 I2 H2 (x1.trans x2) r2
    | ex x h2 => rw [e] at n'; exact fun cls d ρ2 I2 H2 x2 r2 => n' cls d ρ2 I2 H2 (x1.trans x2) r2
    | bad => rw [e] at n'; exact n'
  | ex x h1 => exact n
  | bad => exact n
theorem Nx.imp {o : Out α} {k k' : α → Hs → List Addr → (Addr → Prop) → Hp → Prop} (n : Nx K mg W σ ρ I h H o k)
    (f : ∀ a h' ρ' I' H', Ext ρ I h H ρ' I' h' H' → HR K mg ρ' I' h' H' → k a h' ρ' I' H' → k' a h' ρ' I' H') : Nx K mg W σ ρ I h H o k' := by
  cases o with
  | ok a h1 => exact fun ρ1 I1 H1 x1 r1 => f a h1 ρ1 I1 H1 x1 r1 (n ρ1 I1 H1 x1 r1)
  | ex x h1 => exact n
  | bad => exact n
/-- .. where the end may be taken at another state, too -/
theorem Nx.imp' {o : Out α} {k k' : α → Hs → List Addr → (Addr → Prop) → Hp → Prop} (n : Nx K mg W σ ρ I h H o k)
    (f : ∀ a h' ρ' I' H', Ext ρ I h H ρ' I' h' H' → HR K mg ρ' I' h' H' → (∀ ρ'' I'' H'', Ext ρ I h H ρ'' I'' h' H'' → HR K mg ρ'' I'' h' H'' → k a h' ρ'' I'' H'') → k' a h' ρ' I' H') : Nx K mg W σ ρ I h H o k' := by
  cases o with
  | ok a h1 => exact fun ρ1 I1 H1 x1 r1 => f a h1 ρ1 I1 H1 x1 r1 fun ρ2 I2 H2 x2 r2 => n ρ2 I2 H2 x2 r2
  | ex x h1 => exact n
  | bad => exact n
/-- from another start with the same small heap -/
theorem Nx.from {o : Out α} {k : α → Hs → List Addr → (Addr → Prop) → Hp → Prop} (n : Nx K mg W σ ρ I h H o k) (x : Ext ρ I h H ρ' I' h' H') : Nx K mg W σ ρ' I' h' H' o k := by
  cases o with
  | ok a h1 => exact fun ρ1 I1 H1 x1 r1 => n ρ1 I1 H1 (x.trans x1) r1
  | ex y h1 => exact fun cls d ρ1 I1 H1 x1 r1 => n cls d ρ1 I1 H1 (x.trans x1) r1
  | bad => exact n
theorem Nx.lift {o : Option α} {k : α → Hs → List Addr → (Addr → Prop) → Hp → Prop} (n : Nx K mg W σ ρ I h H (lift o h) k) : ∃ a, o = some a ∧ ∀ ρ' I' H', Ext ρ I h H ρ' I' h H' → HR K mg ρ' I' h H' → k a h ρ' I' H' := by
  cases o with
  | some a => exact ⟨a, rfl, n⟩
  | none => exact n.elim
theorem Nx.ok {a : α} {k : α → Hs → List Addr → (Addr → Prop) → Hp → Prop} (n : Nx K mg W σ ρ I h H (.ok a h') k) : ∀ ρ' I' H', Ext ρ I h H ρ' I' h' H' → HR K mg ρ' I' h' H' → k a h' ρ' I' H' := n

/-- an expression -/
def tD (K : PySem.W.Frag) (mg : Mg) (W : WX) (f : Slots → Hs → Out R) : TE := fun σ H Q => ∃ ρ I σT h, HR K mg ρ I h H ∧ SR K mg ρ I h H σT σ ∧
  Nx K mg W σ ρ I h H (f σT h) fun r h' ρ' I' H' => ∀ v, RO K mg ρ' I' h' H' H σT σ v r → Q v H'
/-- a test -/
def tB (K : PySem.W.Frag) (mg : Mg) (W : WX) (f : Slots → Hs → Out Bool) : TT := fun σ H Q => ∃ ρ I σT h, HR K mg ρ I h H ∧ SR K mg ρ I h H σT σ ∧
  Nx K mg W σ ρ I h H (f σT h) fun b h' ρ' I' H' => Q b H'
/-- items that are kept, items that are looked at -/
def tEs (K : PySem.W.Frag) (mg : Mg) (W : WX) (f : Slots → Hs → Out (List T)) : TA := fun σ H Q => ∃ ρ I σT h, HR K mg ρ I h H ∧ SR K mg ρ I h H σT σ ∧
  Nx K mg W σ ρ I h H (f σT h) fun ts h' ρ' I' H' => ∀ vs, Reps K mg ρ' I' H' vs ts → Q vs H'
def Pks (K : PySem.W.Frag) (mg : Mg) (ρ : List Addr) (I : Addr → Prop) (H : Hp) : List V → List T → Prop
  | [], [] => True
  | v :: vs, t :: ts => Pk K mg ρ I H v t ∧ Pks K mg ρ I H vs ts
  | _, _ => False
/-- what some expressions give -/
def ROs (K : PySem.W.Frag) (mg : Mg) (ρ : List Addr) (I : Addr → Prop) (h : Hs) (H : Hp) (H0 : Hp) (σT : Slots) (σ : St) : List V → List R → Prop
  | [], [] => True
  | v :: vs, r :: rs => RO K mg ρ I h H H0 σT σ v r ∧ ROs K mg ρ I h H H0 σT σ vs rs
  | _, _ => False
def tRs (K : PySem.W.Frag) (mg : Mg) (W : WX) (f : Slots → Hs → Out (List R)) : TA := fun σ H Q => ∃ ρ I σT h, HR K mg ρ I h H ∧ SR K mg ρ I h H σT σ ∧
  Nx K mg W σ ρ I h H (f σT h) fun rs h' ρ' I' H' => ∀ vs, ROs K mg ρ' I' h' H' H σT σ vs rs → Q vs H'
theorem ROs.pks (s : SR K mg ρ I h H σT σ) (hr : HR K mg ρ I h H) {H0 : Hp} : ∀ {vs : List V} {rs : List R} {ts : List T}, ROs K mg ρ I h H H0 σT σ vs rs → peeks σT h rs = some ts → Pks K mg ρ I H vs ts
  | [], [], ts, _, e => by cases e; exact trivial
  | v :: vs, r :: rs, ts, ⟨a, b⟩, e => by
    rw [peeks] at e
    cases y : peek σT h r with
    | none => rw [y] at e; cases e
    | some t =>
      cases y' : peeks σT h rs with
      | none => rw [y, y'] at e; cases e
      | some ts' => rw [y, y'] at e; cases e; exact ⟨a.pk s hr y, ROs.pks s hr b y'⟩
theorem ROs.back {H0 H1 : Hp} (d : ∀ a, (H0 a).isSome → (H1 a).isSome) : ∀ {vs : List V} {rs : List R}, ROs K mg ρ I h H H1 σT σ vs rs → ROs K mg ρ I h H H0 σT σ vs rs
  | [], [], _ => trivial
  | v :: vs, r :: rs, ⟨a, b⟩ => ⟨a.back d, ROs.back d b⟩

theorem live_some (r : HR K mg ρ I h H) {a : Addr} (l : Live ρ h a) : (H a).isSome := by
  obtain ⟨n, o, e1, e2, nd⟩ := l
  have q := r.obj n o a e2 e1
  cases o with
  | lst l => obtain ⟨vs, q, _⟩ := q; exact isSome_of q
  | dct l => obtain ⟨vs, q, _⟩ := q; exact isSome_of q
  | ins c l => obtain ⟨C, dx, vs, _, q, _⟩ := q; exact isSome_of q
  | set l => exact isSome_of q.2
  | dead => exact (nd rfl).elim
theorem RepO.mono (k : Kp ρ I H ρ' I' H') {a : Addr} {o : HOb} (e : o ≠ .dead → H' a = H a) (q : RepO K mg ρ I H a o) : RepO K mg ρ' I' H' a o := by
  cases o with
  | lst l => obtain ⟨vs, q, w⟩ := q; exact ⟨vs, (e (fun z => by cases z)).trans q, w.mono k⟩
  | dct l => obtain ⟨vs, q, w⟩ := q; exact ⟨vs, (e (fun z => by cases z)).trans q, w.mono k⟩
  | ins c l => obtain ⟨C, dx, vs, m, q, w⟩ := q; exact ⟨C, dx, vs, m, (e (fun z => by cases z)).trans q, w.mono k⟩
  | set l => exact ⟨q.1, (e (fun z => by cases z)).trans q.2⟩
  | dead => trivial
theorem upd_keep {p a : Addr} {o : HO} (hp : H p = none) (d : (H a).isSome) : upd H p o a = H a := upd_ne (fun z => by subst z; exact not_none d hp)
theorem upd_dom {p a : Addr} {o : HO} (d : (H a).isSome) : (upd H p o a).isSome := by
  unfold upd; split
  · rfl
  · exact d
theorem none_of_upd {p a : Addr} {o : HO} (e : upd H p o a = none) : H a = none := by
  unfold upd at e; split at e
  · cases e
  · exact e
/-- a new thing that nobody holds yet -/
theorem ext_new {p : Addr} (o : HO) (hp : H p = none) : Ext ρ I h H ρ I h (upd H p o) where
  pre := fun _ _ e => e
  sub := fun _ e => e
  keep := fun a d _ => upd_keep hp d
  dom := fun a d => upd_dom d
  inew := fun a e => .inl e
  lnew := fun a e => .inl e
theorem kp_new {p : Addr} (o : HO) (r : HR K mg ρ I h H) (hp : H p = none) : Kp ρ I H ρ I (upd H p o) := (ext_new (h := h) o hp).kp r
theorem hr_new {p : Addr} (o : HO) (r : HR K mg ρ I h H) (hp : H p = none) : HR K mg ρ I h (upd H p o) where
  len := r.len
  inj := r.inj
  dis := r.dis
  idom := fun a i => upd_dom (r.idom a i)
  obj := fun n u a e1 e2 => (r.obj n u a e1 e2).mono (kp_new o r hp) fun nd => upd_keep hp (live_some r ⟨n, u, e2, e1, nd⟩)
/-- .. one that never changes -/
def Iw (I : Addr → Prop) (p : Addr) : Addr → Prop := fun a => I a ∨ a = p
theorem ext_imm {p : Addr} (o : HO) (hp : H p = none) : Ext ρ I h H ρ (Iw I p) h (upd H p o) where
  pre := fun _ _ e => e
  sub := fun _ e => .inl e
  keep := fun a d _ => upd_keep hp d
  dom := fun a d => upd_dom d
  inew := fun a e => e.elim .inl fun z => .inr (.inl (z ▸ hp))
  lnew := fun a e => .inl e
theorem hr_imm {p : Addr} (o : HO) (r : HR K mg ρ I h H) (hp : H p = none) : HR K mg ρ (Iw I p) h (upd H p o) where
  len := r.len
  inj := r.inj
  dis := fun a l i => i.elim (r.dis a l) fun z => not_none (live_some r l) (z ▸ hp)
  idom := fun a i => i.elim (fun z => upd_dom (r.idom a z)) fun z => by rw [z]; exact isSome_of upd_same
  obj := fun n u a e1 e2 => (r.obj n u a e1 e2).mono ((ext_imm (h := h) o hp).kp r) fun nd => upd_keep hp (live_some r ⟨n, u, e2, e1, nd⟩)
/-- a fresh list is kept from now on: nobody changes it -/
theorem Ext.hold {ρ1 : List Addr} {I1 : Addr → Prop} {h1 : Hs} {H1 : Hp} {a : Addr} (x : Ext ρ I h H ρ1 I1 h1 H1) (e : H a = none) : Ext ρ I h H ρ1 (Iw I1 a) h1 H1 where
  pre := x.pre
  sub := fun b i => .inl (x.sub b i)
  keep := x.keep
  dom := x.dom
  inew := fun b i => i.elim (x.inew b) fun z => .inr (.inl (z ▸ e))
  lnew := x.lnew
theorem kp_hold {a : Addr} : Kp ρ I H ρ (Iw I a) H := ⟨fun _ _ e => e, fun _ e => .inl e, fun _ _ => rfl⟩
theorem HR.hold {a : Addr} (r : HR K mg ρ I h H) (nl : ¬ Live ρ h a) (d : (H a).isSome) : HR K mg ρ (Iw I a) h H where
  len := r.len
  inj := r.inj
  dis := fun b l i => i.elim (r.dis b l) fun z => nl (z ▸ l)
  idom := fun b i => i.elim (r.idom b) fun z => z ▸ d
  obj := fun n u b e1 e2 => (r.obj n u b e1 e2).mono kp_hold fun _ => rfl
/-- what is given is kept as a value -/
theorem RO.keep {ρ1 : List Addr} {I1 : Addr → Prop} {h1 : Hs} {H1 : Hp} {v : V} {r : R} {t : T} (o : RO K mg ρ1 I1 h1 H1 H σT σ v r) (x : Ext ρ I h H ρ1 I1 h1 H1) (r1 : HR K mg ρ1 I1 h1 H1) (e : frz r = some t) :
    ∃ I2, Ext ρ I h H ρ1 I2 h1 H1 ∧ HR K mg ρ1 I2 h1 H1 ∧ Rep K mg ρ1 I2 H1 v t := by
  cases r with
  | v u => cases e; exact ⟨I1, x, r1, o⟩
  | al l =>
    cases e
    obtain ⟨a, vs, e, n, p, ni, nl, w⟩ := o
    exact ⟨Iw I1 a, x.hold n, r1.hold nl (isSome_of p), a, vs, e, .inr rfl, p, w.mono kp_hold⟩
  | bw i => cases e
end
/-- a weaker reading -/
theorem PE.imp {X : Cx} {e : Expr} {t t' : TE} (p : PE X e t) (f : ∀ σ H Q, t' σ H Q → t σ H Q) : PE X e t' := ⟨fun pins s σ H Q I h => p.run pins s σ H Q I (f σ H Q h)⟩
theorem PT.imp {X : Cx} {e : Expr} {t t' : TT} (p : PT X e t) (f : ∀ σ H Q, t' σ H Q → t σ H Q) : PT X e t' := ⟨fun pins s σ H Q I h => p.run pins s σ H Q I (f σ H Q h)⟩
theorem PW.imp {X : Cx} {e : Expr} {t t' : TT} (p : PW X e t) (f : ∀ σ H Q, t' σ H Q → t σ H Q) : PW X e t' := ⟨fun wh pins s σ H Q I h => p.run wh pins s σ H Q I (f σ H Q h)⟩
theorem PA.imp {X : Cx} {e : List Expr} {t t' : TA} (p : PA X e t) (f : ∀ σ H Q, t' σ H Q → t σ H Q) : PA X e t' := ⟨fun pos pins s σ H Q I h => p.run pos pins s σ H Q I (f σ H Q h)⟩
theorem PS.imp {X : Cx} {e : Stmt} {t t' : TS} (p : PS X e t) (f : ∀ D σ H, t' D σ H → t D σ H) : PS X e t' := ⟨fun pins s σ H D I h => p.run pins s σ H D I (f D σ H h)⟩
theorem PSs.imp {X : Cx} {e : List Stmt} {t t' : TS} (p : PSs X e t) (f : ∀ D σ H, t' D σ H → t D σ H) : PSs X e t' := ⟨fun pins s σ H D I h => p.run pins s σ H D I (f D σ H h)⟩
theorem OpR.imp {X : Cx} {f : Value → Value → Sem Value} {r r' : R2} (p : OpR X f r) (g : ∀ x y H Q, r' x y H Q → r x y H Q) : OpR X f r' := fun pins s σ H x y v u Q I rx ry h => p pins s σ H x y v u Q I rx ry (g x y H Q h)
theorem CallR.imp {X : Cx} {f : Value} {r r' : List V → Hp → VK → Prop} (p : CallR X f r) (g : ∀ xs H Q, r' xs H Q → r xs H Q) : CallR X f r' := fun pins s σ H xs us Q I rx h => p pins s σ H xs us Q I rx (g xs H Q h)
/-- what an operation gives, from the state at which it stands -/
def Gv (K : PySem.W.Frag) (mg : Mg) (ρ : List Addr) (I : Addr → Prop) (h : Hs) (H : Hp) (Q : VK) (r : R) : Prop :=
  ∀ v H' ρ' I', Ext ρ I h H ρ' I' h H' → HR K mg ρ' I' h H' → RO K mg ρ' I' h H' H [] [] v r → Q v H'
theorem RO.any {K : PySem.W.Frag} {mg : Mg} {ρ : List Addr} {I : Addr → Prop} {h : Hs} {H H0 : Hp} {σT : Slots} {σ : St} {v : V} {r : R} (o : RO K mg ρ I h H H0 [] [] v r) : RO K mg ρ I h H H0 σT σ v r := by
  cases r with
  | v t => exact o
  | al l => exact o
  | bw i => exact (by obtain ⟨e, _⟩ := o; simp at e)
section
variable {K : PySem.W.Frag} {mg : Mg} {ρ : List Addr} {I : Addr → Prop} {h : Hs} {H : Hp} {Q : VK}
/-- a flat value -/
theorem Gv.v {t : T} {v : V} (g : Gv K mg ρ I h H Q (.v t)) (r : HR K mg ρ I h H) (q : Rep K mg ρ I H v t) : Q v H := g v H ρ I .refl r q
theorem Gv.al {l : List T} {vs : List V} {p : Addr} (g : Gv K mg ρ I h H Q (.al l)) (r : HR K mg ρ I h H) (hp : H p = none) (q : Reps K mg ρ I H vs l) : Q (.ref p) (upd H p (.lst vs)) :=
  g _ _ ρ I (ext_new _ hp) (hr_new _ r hp) ⟨p, vs, rfl, hp, upd_same, fun z => not_none (r.idom p z) hp, fun z => not_none (live_some r z) hp, q.mono (kp_new _ r hp)⟩
theorem Gv.tup {l : List T} {vs : List V} {p : Addr} (g : Gv K mg ρ I h H Q (.v (.tup l))) (r : HR K mg ρ I h H) (hp : H p = none) (q : Reps K mg ρ I H vs l) : Q (.ref p) (upd H p (.tup vs)) :=
  g _ _ ρ (Iw I p) (ext_imm _ hp) (hr_imm _ r hp) ⟨p, vs, rfl, .inl ⟨.inr rfl, .of upd_same⟩, q.mono ((ext_imm (h := h) _ hp).kp r)⟩
end
end VY
namespace VY
open PySem PySem.Spec
open PyProof.Rows hiding St
open L2
theorem no_some {α : Type} {a : α} (e : (none : Option α) = some a) : False := nomatch e
theorem mulOk_ok {i j : Int} (h : mulOk i j = true) : IntMulOk i j := by
  unfold mulOk at h
  simp only [Bool.or_eq_true, decide_eq_true_eq] at h
  rcases h with (h | h) | h
  · exact CMul.ok (.inl h)
  · exact CMul.ok (.inr h)
  · exact CMulW.ok h
section
variable {X : Cx} {K : PySem.W.Frag} {mg : Mg} {ρ : List Addr} {I : Addr → Prop} {h : Hs} {H : Hp} {Q : VK}
def rOp (K : PySem.W.Frag) (mg : Mg) (op : Operator) : R2 := fun x y H Q => ∃ ρ I h t u r, HR K mg ρ I h H ∧ Pk K mg ρ I H x t ∧ Pk K mg ρ I H y u ∧ opR op t u = some r ∧ Gv K mg ρ I h H Q r
theorem op_mulT : OpR X (binaryOp .Mult) (rI (fun i j => mulOk i j = true) fun i j => .int (i * j)) := opI fun _ _ _ _ _ _ _ hc q => mul_int q (mulOk_ok hc)
theorem op_powT : OpR X (binaryOp .Pow) (rI (fun i j => 0 ≤ j ∧ (Builtin.Int.intBits i : Int) * j ≤ 2 ^ 27) fun i j => .int (i ^ j.toNat)) := opI fun _ _ _ _ _ _ _ hc q => pow_int hc.1 hc.2 q
theorem ite_some {α : Type} {c : Prop} [Decidable c] {a b : α} (e : (if c then some a else none) = some b) : c ∧ a = b := by
  split at e
  · exact ⟨by assumption, Option.some.inj e⟩
  · cases e
theorem op_sound (op : Operator) : OpR X (binaryOp op) (rOp K mg op) := by
  cases op with
  | Add =>
    refine OpR.imp (op_add.or (op_add_str.or op_cat)) ?_
    rintro x y H Q ⟨ρ, I, h, t, u, r, hr, p, q, e, g⟩
    cases t <;> cases u <;> try exact (no_some e).elim
    · cases e
      exact .inl ⟨_, _, p, q, g.v hr rfl⟩
    · obtain ⟨c, rfl⟩ := ite_some (show (if _ then some _ else none) = some r from e)
      exact .inr (.inl ⟨_, _, p, q, by rw [sizeLine_eq]; exact c, g.v hr rfl⟩)
    · obtain ⟨c, rfl⟩ := ite_some (show (if _ then some _ else none) = some r from e)
      obtain ⟨a, vs, rfl, pa, wa⟩ := p
      obtain ⟨b, ws, rfl, pb, wb⟩ := q
      exact .inr (.inr ⟨a, b, vs, ws, rfl, rfl, pa, pb, by rw [wa.length, wb.length, sizeLine_eq]; exact c, fun p hp => g.al hr hp (wa.append wb)⟩)
  | Sub =>
    refine OpR.imp op_sub ?_
    rintro x y H Q ⟨ρ, I, h, t, u, r, hr, p, q, e, g⟩
    cases t <;> cases u <;> try exact (no_some e).elim
    cases e
    exact ⟨_, _, p, q, g.v hr rfl⟩
  | Mult =>
    refine OpR.imp (op_mulT.or op_rep) ?_
    rintro x y H Q ⟨ρ, I, h, t, u, r, hr, p, q, e, g⟩
    cases t <;> cases u <;> try exact (no_some e).elim
    · obtain ⟨c, rfl⟩ := ite_some (show (if _ then some _ else none) = some r from e)
      exact .inl ⟨_, _, p, q, c, g.v hr rfl⟩
    · obtain ⟨⟨c1, c2, c3⟩, rfl⟩ := ite_some (show (if _ then some _ else none) = some r from e)
      obtain ⟨a, vs, rfl, pa, wa⟩ := p
      exact .inr ⟨a, _, vs, rfl, q, pa, c1, c2, by rw [wa.length, sizeLine_eq]; exact c3, fun p hp => g.al hr hp (wa.rep _)⟩
  | FloorDiv =>
    refine OpR.imp (op_fdivW.or op_fdivN) ?_
    rintro x y H Q ⟨ρ, I, h, t, u, r, hr, p, q, e, g⟩
    cases t <;> cases u <;> try exact (no_some e).elim
    rename_i i j
    have e' : (fdivT i j).map (fun r => R.v (.int r)) = some r := e
    unfold fdivT at e'
    split at e'
    · cases e'
      exact .inl ⟨_, _, p, q, by assumption, g.v hr rfl⟩
    · split at e'
      · cases e'
        exact .inr ⟨_, _, p, q, by assumption, g.v hr rfl⟩
      · cases e'
  | Mod =>
    refine OpR.imp (op_mod.or op_modN) ?_
    rintro x y H Q ⟨ρ, I, h, t, u, r, hr, p, q, e, g⟩
    cases t <;> cases u <;> try exact (no_some e).elim
    rename_i i j
    have e' : (modT i j).map (fun r => R.v (.int r)) = some r := e
    unfold modT at e'
    split at e'
    · cases e'
      exact .inl ⟨_, _, p, q, by assumption, g.v hr rfl⟩
    · split at e'
      · cases e'
        exact .inr ⟨_, _, p, q, by assumption, g.v hr rfl⟩
      · cases e'
  | Pow =>
    refine OpR.imp op_powT ?_
    rintro x y H Q ⟨ρ, I, h, t, u, r, hr, p, q, e, g⟩
    cases t <;> cases u <;> try exact (no_some e).elim
    rename_i i j
    have e' : (powT i j).map (fun r => R.v (.int r)) = some r := e
    unfold powT at e'
    split at e'
    · cases e'
      exact ⟨_, _, p, q, by assumption, g.v hr rfl⟩
    · cases e'
  | _ =>
    rintro pins s σ H x y v u Q I rx ry ⟨ρ, I', h, t, u, r, hr, p, q, e, g⟩
    (cases t <;> cases u <;> exact (no_some e).elim)

theorem IxR.imp {r r' : R2} (p : IxR X r) (g : ∀ x y H Q, r' x y H Q → r x y H Q) : IxR X r' := by
  unfold IxR at p ⊢
  intros
  apply p <;> first | assumption | (apply g; assumption)
theorem SlR.imp {r r' : V → Option Int → Option Int → Hp → VK → Prop} (p : SlR X r) (g : ∀ x lo hi H Q, r' x lo hi H Q → r x lo hi H Q) : SlR X r' := by
  unfold SlR at p ⊢
  intros
  apply p <;> first | assumption | (apply g; assumption)
theorem keyT_kV {y : V} {t : T} {k : Key} (r : Rep K mg ρ I H y t) (e : keyT t = some k) : y = kV k := by
  cases t <;> first | (cases e; exact r) | cases e
theorem RepD.val : ∀ {vs : List (Key × V)} {l : List (Key × T)} (k : Key), RepD K mg ρ I H vs l → (∀ t, lookT l k = some t → ∃ v, valV vs k = some v ∧ Rep K mg ρ I H v t) ∧ (lookT l k = none → valV vs k = none)
  | [], [], k, _ => ⟨fun t e => by simp [lookT] at e, fun _ => rfl⟩
  | (k1, v) :: vs, (k2, t) :: l, k, ⟨e, r, q⟩ => by
    have e : k1 = k2 := e
    subst e
    have ih := RepD.val k q
    by_cases c : k1 = k
    · rw [valV_pos (p := (k1, v)) c]
      have z : lookT ((k1, t) :: l) k = some t := by simp [lookT, List.find?_cons, c]
      rw [z]
      exact ⟨fun t' e => by cases e; exact ⟨v, rfl, r⟩, fun e => by cases e⟩
    · rw [valV_neg (p := (k1, v)) c]
      have z : lookT ((k1, t) :: l) k = lookT l k := by simp [lookT, List.find?_cons, c]
      rw [z]
      exact ih
theorem RepD.len : ∀ {vs : List (Key × V)} {l : List (Key × T)}, RepD K mg ρ I H vs l → vs.length = l.length
  | [], [], _ => rfl
  | _ :: _, (_, _) :: _, ⟨_, _, q⟩ => congrArg (· + 1) (RepD.len q)
theorem RepD.any (k : Key) : ∀ {vs : List (Key × V)} {l : List (Key × T)}, RepD K mg ρ I H vs l → (vs.any fun kv => decide (kv.1 = k)) = l.any fun kv => decide (kv.1 = k)
  | [], [], _ => rfl
  | (_, _) :: _, (_, _) :: _, ⟨e, _, q⟩ => by rw [List.any_cons, List.any_cons, RepD.any k q, show _ = _ from e]
theorem RepD.repl (k : Key) {v : V} {t : T} (r : Rep K mg ρ I H v t) : ∀ {vs : List (Key × V)} {l : List (Key × T)}, RepD K mg ρ I H vs l →
    RepD K mg ρ I H (vs.map fun kv => if kv.1 = k then (kv.1, v) else kv) (l.map fun kv => if kv.1 = k then (kv.1, t) else kv)
  | [], [], _ => trivial
  | (k1, _) :: _, (k2, _) :: _, ⟨e, r1, q⟩ => by
    have e : k1 = k2 := e
    subst e
    rw [List.map_cons, List.map_cons]
    by_cases c : k1 = k
    · rw [if_pos (show (k1, _).1 = k from c), if_pos (show (k1, _).1 = k from c)]; exact ⟨rfl, r, RepD.repl k r q⟩
    · rw [if_neg (show ¬ (k1, _).1 = k from c), if_neg (show ¬ (k1, _).1 = k from c)]; exact ⟨rfl, r1, RepD.repl k r q⟩
theorem RepD.snoc (k : Key) {v : V} {t : T} (r : Rep K mg ρ I H v t) : ∀ {vs : List (Key × V)} {l : List (Key × T)}, RepD K mg ρ I H vs l → RepD K mg ρ I H (vs ++ [(k, v)]) (l ++ [(k, t)])
  | [], [], _ => ⟨rfl, r, trivial⟩
  | (_, _) :: _, (_, _) :: _, ⟨e, r1, q⟩ => ⟨e, r1, RepD.snoc k r q⟩
theorem RepD.put (k : Key) {v : V} {t : T} (r : Rep K mg ρ I H v t) {vs : List (Key × V)} {l : List (Key × T)} (q : RepD K mg ρ I H vs l) : RepD K mg ρ I H (putK vs k v) (putT l k t) := by
  unfold putK putT
  rw [q.any k]
  by_cases c : (l.any fun kv => decide (kv.1 = k)) = true
  · rw [if_pos c, if_pos c]; exact q.repl k r
  · rw [if_neg c, if_neg c]; exact q.snoc k r
theorem RepD.merge : ∀ {ws : List (Key × V)} {m : List (Key × T)} {vs : List (Key × V)} {l : List (Key × T)}, RepD K mg ρ I H ws m → RepD K mg ρ I H vs l → RepD K mg ρ I H (mergeK vs ws) (mergeT l m)
  | [], [], _, _, _, q => q
  | (k1, v) :: ws, (k2, t) :: m, vs, l, ⟨e, r, q'⟩, q => by
    have e : k1 = k2 := e
    subst e
    show RepD K mg ρ I H (mergeK (putK vs k1 v) ws) (mergeT (putT l k1 t) m)
    exact RepD.merge q' (q.put k1 r)
theorem dget_of {v y : V} {l : List (Key × T)} {u : T} {k : Key} (p : Pk K mg ρ I H v (.dct l)) (q : Rep K mg ρ I H y u) (ek : keyT u = some k) : ∃ a o, v = .ref a ∧ DGet H a y o ∧ (∀ t, lookT l k = some t → ∃ w, o = some w ∧ Rep K mg ρ I H w t) ∧ (lookT l k = none → o = none) := by
  obtain ⟨a, vs, rfl, s, w⟩ := p
  obtain ⟨h1, h2⟩ := w.val k
  exact ⟨a, valV vs k, rfl, .inl ⟨vs, k, s, keyT_kV q ek, rfl⟩, h1, h2⟩
theorem op_dIn (hu : X.A.units + 1 < cLine) : OpR X (compareOp .In) (fun x y H Q => ∃ a o, y = .ref a ∧ DGet H a x o ∧ Q (.bl o.isSome) H) := by
  rintro pins s σ H x y v u Q I rx ry ⟨a, o, rfl, g, q⟩
  obtain rfl : u = Value.ref a := ry
  exact d_in hu I g rx fun s3 I3 => ⟨.bl o.isSome, H, I3, rfl, q⟩
theorem op_dNotIn (hu : X.A.units + 1 < cLine) : OpR X (compareOp .NotIn) (fun x y H Q => ∃ a o, y = .ref a ∧ DGet H a x o ∧ Q (.bl (!o.isSome)) H) := by
  rintro pins s σ H x y v u Q I rx ry ⟨a, o, rfl, g, q⟩
  obtain rfl : u = Value.ref a := ry
  exact d_notIn hu I g rx fun s3 I3 => ⟨.bl (!o.isSome), H, I3, rfl, q⟩
theorem ix_d (hu : X.A.units + 1 < cLine) : IxR X (fun x y H Q => ∃ a v, x = .ref a ∧ DGet H a y (some v) ∧ Q v H) := by
  intro value slice pins s σ H x y v u Q I rx ry h hs
  obtain ⟨a, w, rfl, g, q⟩ := h
  obtain rfl : v = Value.ref a := rx
  exact tail_any (dict_typeIs I g) PySem.F.slot_dict_getitem.lookup (d_getItem hu I g ry fun w' s3 I3 rw' => ⟨w, H, I3, rw', q⟩) hs
mutual
theorem Rep.dp {d : PyData} : ∀ {v : V} {t : T}, Rep K mg ρ I H v t → toD t = some d → Dp K H v d
  | _, .non, e, z => by cases z; cases e; exact .non
  | _, .bl _, e, z => by cases z; cases e; exact .bl _
  | _, .int _, e, z => by cases z; cases e; exact .int _
  | _, .str _, e, z => by cases z; cases e; exact .str _
  | _, .tup l, ⟨a, vs, e, r, q⟩, z => by
    subst e
    cases y : toDs l with
    | none => rw [toD, y] at z; cases z
    | some ds =>
      rw [toD, y] at z; cases z
      exact .tup (r.elim (fun u => .inl u.2) .inr) (Reps.dp q y)
  | _, .lst l, ⟨a, vs, e, i, r, q⟩, z => by
    subst e
    cases y : toDs l with
    | none => rw [toD, y] at z; cases z
    | some ds =>
      rw [toD, y] at z; cases z
      exact .lst (SqL.of r) (Reps.dp q y)
  | _, .slst l, ⟨a, vs, e, r, q⟩, z => by
    subst e
    cases y : toDs l with
    | none => rw [toD, y] at z; cases z
    | some ds =>
      rw [toD, y] at z; cases z
      exact .lst (r.elim (fun u => .inl u.2) .inr) (Reps.dp q y)
  | _, .ty _, _, z => by cases z
  | _, .gl _, _, z => by cases z
  | _, .ref _, _, z => by cases z
  | _, .dct _, _, z => by cases z
  | _, .ins _ _, _, z => by cases z
theorem Reps.dp : ∀ {vs : List V} {l : List T} {ds : List PyData}, Reps K mg ρ I H vs l → toDs l = some ds → DpAll K H vs ds
  | [], [], _, _, z => by cases z; exact .nil
  | v :: vs, t :: l, ds, ⟨a, b⟩, z => by
    cases y : toD t with
    | none => rw [toDs, y] at z; cases z
    | some d =>
      cases y' : toDs l with
      | none => rw [toDs, y, y'] at z; cases z
      | some ds' =>
        rw [toDs, y, y'] at z; cases z
        exact .cons (Rep.dp a y) (Reps.dp b y')
end
theorem Pk.dp {d : PyData} {v : V} {t : T} (p : Pk K mg ρ I H v t) (z : toD t = some d) : Dp K H v d := by
  cases t with
  | lst l =>
    obtain ⟨a, vs, rfl, r, q⟩ := p
    cases y : toDs l with
    | none => rw [toD, y] at z; cases z
    | some ds =>
      rw [toD, y] at z; cases z
      exact .lst (SqL.of r) (q.dp y)
  | dct l => cases z
  | _ => exact Rep.dp p z
theorem flat_v {v w : V} : ∀ {t : T}, Pk K mg ρ I H v t → inT.flatOf t = some w → v = w
  | .non, e, z => by cases z; exact e
  | .bl _, e, z => by cases z; exact e
  | .int _, e, z => by cases z; exact e
  | .str _, e, z => by cases z; exact e
  | .tup _, _, z => by cases z
  | .lst _, _, z => by cases z
  | .slst _, _, z => by cases z
  | .dct _, _, z => by cases z
  | .ins _ _, _, z => by cases z
  | .ty _, _, z => by cases z
  | .gl _, _, z => by cases z
  | .ref _, _, z => by cases z
theorem flat_vs : ∀ {vs ws : List V} {l : List T}, Reps K mg ρ I H vs l → l.mapM inT.flatOf = some ws → vs = ws
  | [], ws, [], _, z => by simp at z; exact z.symm
  | v :: vs, ws, t :: l, ⟨a, b⟩, z => by
    rw [List.mapM_cons] at z
    cases y : inT.flatOf t with
    | none => rw [y] at z; cases z
    | some w =>
      cases y' : l.mapM inT.flatOf with
      | none => rw [y, y'] at z; cases z
      | some ws' =>
        rw [y, y'] at z
        have z' : w :: ws' = ws := Option.some.inj z
        rw [← z', flat_v (Pk.of a) y, flat_vs b y']
def rCmp (K : PySem.W.Frag) (mg : Mg) (op : CmpOp) : R2 := fun x y H Q => ∃ ρ I h t u k, HR K mg ρ I h H ∧ Pk K mg ρ I H x t ∧ Pk K mg ρ I H y u ∧ cmpR op t u = some k ∧ Q (.bl k) H
theorem and_tt {a b : Bool} (h : (a && b) = true) : a = true ∧ b = true := Bool.and_eq_true_iff.mp h
theorem eqT_inv {t u : T} {k : Bool} (e : eqT t u = some k) : ∃ d e', toD t = some d ∧ toD u = some e' ∧ SeqAt.shaped d = true ∧ SeqAt.shaped e' = true ∧ PyData.eqv d e' = k := by
  unfold eqT at e
  cases y : toD t with
  | none => rw [y] at e; cases e
  | some d =>
    cases y' : toD u with
    | none => rw [y, y'] at e; cases e
    | some d' =>
      rw [y, y'] at e
      obtain ⟨c, z⟩ := ite_some (show (if _ then some _ else none) = some k from e)
      exact ⟨d, d', rfl, rfl, (and_tt c).1, (and_tt c).2, z⟩
theorem in_lst {t : T} {l : List T} {k : Bool} {v u : V} (p : Pk K mg ρ I H v t) {a : Addr} {vs : List V} (ea : u = .ref a) (s : SqL K H a vs) (q : Reps K mg ρ I H vs l)
    (e : (match toD t, toDs l with | some d, some ds => if SeqAt.shaped d && SeqAt.shaped (.list ds) then some (ds.any fun z => PyData.eqv z d) else none | _, _ => none) = some k) :
    ∃ d ds, Dp K H v d ∧ Dp K H u (.list ds) ∧ SeqAt.shaped d = true ∧ SeqAt.shaped (.list ds) = true ∧ (ds.any fun z => PyData.eqv z d) = k := by
  cases y : toD t with
  | none => rw [y] at e; cases e
  | some d =>
    cases y' : toDs l with
    | none => rw [y, y'] at e; cases e
    | some ds =>
      rw [y, y'] at e
      obtain ⟨c, z⟩ := ite_some (show (if _ then some _ else none) = some k from e)
      exact ⟨d, ds, p.dp y, ea ▸ .lst s (q.dp y'), (and_tt c).1, (and_tt c).2, z⟩
theorem in_tup {t : T} {l : List T} {k : Bool} {v : V} {vs : List V} (p : Pk K mg ρ I H v t) (q : Reps K mg ρ I H vs l) (e : inT.flatIn t l = some k) : flatV v = true ∧ vs.all flatV = true ∧ inV v vs = k := by
  unfold inT.flatIn at e
  cases y : inT.flatOf t with
  | none => rw [y] at e; cases e
  | some w =>
    cases y' : l.mapM inT.flatOf with
    | none => rw [y, y'] at e; cases e
    | some ws =>
      rw [y, y'] at e
      obtain ⟨c, z⟩ := ite_some (show (if _ then some _ else none) = some k from e)
      rw [flat_v p y, flat_vs q y']
      exact ⟨(and_tt c).1, (and_tt c).2, z⟩
theorem is_non {v : V} {t : T} (p : Pk K mg ρ I H v t) : decide (v = .non) = (match t with | .non => true | _ => false) := by
  cases t with
  | non => cases (show v = .non from p); rfl
  | bl b => cases (show v = .bl b from p); rfl
  | int b => cases (show v = .int b from p); rfl
  | str b => cases (show v = .str b from p); rfl
  | ty b => cases (show v = .ty b from p); rfl
  | gl x => obtain ⟨a, rfl, _⟩ := (show ∃ a, v = .ref a ∧ mg x = some (.ref a) from p); rfl
  | ref n => obtain ⟨a, rfl, _⟩ := (show ∃ a, v = .ref a ∧ ρ[n]? = some a from p); rfl
  | tup l => obtain ⟨a, vs, rfl, _⟩ := (show ∃ a vs, v = .ref a ∧ _ ∧ _ from p); rfl
  | lst l => obtain ⟨a, vs, rfl, _⟩ := (show ∃ a vs, v = .ref a ∧ _ ∧ _ from p); rfl
  | slst l => obtain ⟨a, vs, rfl, _⟩ := (show ∃ a vs, v = .ref a ∧ _ ∧ _ from p); rfl
  | dct l => obtain ⟨a, vs, rfl, _⟩ := (show ∃ a vs, v = .ref a ∧ _ ∧ _ from p); rfl
  | ins c l => obtain ⟨a, C, dx, vs, rfl, _⟩ := (show ∃ a C dx vs, v = .ref a ∧ _ from p); rfl
theorem cmp_ii {f : Int → Int → Bool} {op : CmpOp} (hf : ∀ i j, cmpR op (.int i) (.int j) = some (f i j)) (hn : ∀ t u k, cmpR op t u = some k → (∃ i, t = .int i) ∧ ∃ j, u = .int j)
    (hr : OpR X (compareOp op) (rI0 fun i j => .bl (f i j))) : OpR X (compareOp op) (rCmp K mg op) := by
  refine OpR.imp hr ?_
  rintro x y H Q ⟨ρ, I, h, t, u, k, r, p, q, e, g⟩
  obtain ⟨⟨i, rfl⟩, ⟨j, rfl⟩⟩ := hn t u k e
  rw [hf] at e
  cases e
  exact ⟨i, j, p, q, g⟩
theorem Pk.rep {v : V} {t : T} {k : Key} (p : Pk K mg ρ I H v t) : keyT t = some k → Rep K mg ρ I H v t := by
  intro e
  cases t <;> first | exact p | cases e
theorem opR_mapNot {o : Option Bool} {k : Bool} (e : o.map (!·) = some k) : o = some (!k) := by
  cases o with
  | none => cases e
  | some b =>
    have e' : (!b) = k := Option.some.inj e
    rw [← e', Bool.not_not]
theorem cmp_sound (hK : K = X.K) (hu : X.A.units + 65 < cLine) (op : CmpOp) : OpR X (compareOp op) (rCmp K mg op) := by
  subst hK
  have hu' : X.A.units + 64 < cLine := by omega
  cases op with
  | Eq =>
    refine OpR.imp (op_eqD hu') ?_
    rintro x y H Q ⟨ρ, I, h, t, u, k, r, p, q, e, g⟩
    obtain ⟨d, d', e1, e2, s1, s2, z⟩ := eqT_inv e
    exact ⟨d, d', p.dp e1, q.dp e2, s1, s2, by rw [z]; exact g⟩
  | NotEq =>
    refine OpR.imp (op_neD hu') ?_
    rintro x y H Q ⟨ρ, I, h, t, u, k, r, p, q, e, g⟩
    obtain ⟨d, d', e1, e2, s1, s2, z⟩ := eqT_inv (opR_mapNot e)
    exact ⟨d, d', p.dp e1, q.dp e2, s1, s2, by rw [z, Bool.not_not]; exact g⟩
  | Lt => exact cmp_ii (fun _ _ => rfl) (fun t u k e => by cases t <;> cases u <;> simp [cmpR] at e ⊢) op_lt
  | LtE => exact cmp_ii (fun _ _ => rfl) (fun t u k e => by cases t <;> cases u <;> simp [cmpR] at e ⊢) op_le
  | Gt => exact cmp_ii (fun _ _ => rfl) (fun t u k e => by cases t <;> cases u <;> simp [cmpR] at e ⊢) op_gt
  | GtE => exact cmp_ii (fun _ _ => rfl) (fun t u k e => by cases t <;> cases u <;> simp [cmpR] at e ⊢) op_ge
  | Is =>
    refine OpR.imp op_isN ?_
    rintro x y H Q ⟨ρ, I, h, t, u, k, r, p, q, e, g⟩
    have e1 : u = .non := by cases u <;> simp [cmpR] at e ⊢
    subst e1
    refine ⟨q, ?_⟩
    rw [is_non p]
    cases t <;> (cases e; exact g)
  | IsNot =>
    refine OpR.imp op_notN ?_
    rintro x y H Q ⟨ρ, I, h, t, u, k, r, p, q, e, g⟩
    have e1 : u = .non := by cases u <;> simp [cmpR] at e ⊢
    subst e1
    refine ⟨q, ?_⟩
    rw [is_non p]
    cases t <;> (cases e; exact g)
  | In =>
    refine OpR.imp ((op_inD hu).or (op_in_seq.or (op_dIn (by omega)))) ?_
    rintro x y H Q ⟨ρ, I, h, t, u, k, r, p, q, e, g⟩
    have e' : inT t u = some k := e
    cases u with
    | lst l =>
      obtain ⟨a, vs, ea, s, w⟩ := q
      obtain ⟨d, ds, z1, z2, z3, z4, z5⟩ := in_lst p ea (SqL.of s) w e'
      exact .inl ⟨d, ds, z1, z2, z3, z4, by rw [z5]; exact g⟩
    | slst l =>
      obtain ⟨a, vs, ea, s, w⟩ := q
      obtain ⟨d, ds, z1, z2, z3, z4, z5⟩ := in_lst p ea (s.elim (fun u => .inl u.2) .inr) w e'
      exact .inl ⟨d, ds, z1, z2, z3, z4, by rw [z5]; exact g⟩
    | tup l =>
      obtain ⟨a, vs, ea, s, w⟩ := q
      obtain ⟨z1, z2, z3⟩ := in_tup p w e'
      exact .inr (.inl ⟨a, vs, ea, .inr (s.elim (fun u => .inl u.2) .inr), z1, z2, by rw [z3]; exact g⟩)
    | dct l =>
      obtain ⟨kk, ek, z⟩ := Option.map_eq_some_iff.mp (show (keyT t).map (fun k => (lookT l k).isSome) = some k from e')
      obtain ⟨a, o, rfl, dg, h1, h2⟩ := dget_of q (p.rep ek) ek
      refine .inr (.inr ⟨a, o, rfl, dg, ?_⟩)
      have eo : o.isSome = k := by
        rw [← z]
        cases y : lookT l kk with
        | none => rw [h2 y]; rfl
        | some t => obtain ⟨w, rfl, _⟩ := h1 t y; rfl
      rw [eo]; exact g
    | _ => cases e'
  | NotIn =>
    refine OpR.imp ((op_notInD hu).or (op_notIn_seq.or (op_dNotIn (by omega)))) ?_
    rintro x y H Q ⟨ρ, I, h, t, u, k, r, p, q, e, g⟩
    have e' : inT t u = some (!k) := opR_mapNot e
    cases u with
    | lst l =>
      obtain ⟨a, vs, ea, s, w⟩ := q
      obtain ⟨d, ds, z1, z2, z3, z4, z5⟩ := in_lst p ea (SqL.of s) w e'
      exact .inl ⟨d, ds, z1, z2, z3, z4, by rw [z5, Bool.not_not]; exact g⟩
    | slst l =>
      obtain ⟨a, vs, ea, s, w⟩ := q
      obtain ⟨d, ds, z1, z2, z3, z4, z5⟩ := in_lst p ea (s.elim (fun u => .inl u.2) .inr) w e'
      exact .inl ⟨d, ds, z1, z2, z3, z4, by rw [z5, Bool.not_not]; exact g⟩
    | tup l =>
      obtain ⟨a, vs, ea, s, w⟩ := q
      obtain ⟨z1, z2, z3⟩ := in_tup p w e'
      exact .inr (.inl ⟨a, vs, ea, .inr (s.elim (fun u => .inl u.2) .inr), z1, z2, by
        show Q (.bl (if true = true then !inV x vs else inV x vs)) H
        rw [if_pos rfl, z3, Bool.not_not]; exact g⟩)
    | dct l =>
      obtain ⟨kk, ek, z⟩ := Option.map_eq_some_iff.mp (show (keyT t).map (fun k => (lookT l k).isSome) = some (!k) from e')
      obtain ⟨a, o, rfl, dg, h1, h2⟩ := dget_of q (p.rep ek) ek
      refine .inr (.inr ⟨a, o, rfl, dg, ?_⟩)
      have eo : (!o.isSome) = k := by
        rw [← Bool.not_not k, ← z]
        cases y : lookT l kk with
        | none => rw [h2 y]; rfl
        | some t => obtain ⟨w, rfl, _⟩ := h1 t y; rfl
      rw [eo]; exact g
    | _ => cases e'
/-- truth -/
theorem empty_eq {vs : List V} {l : List T} (q : Reps K mg ρ I H vs l) : vs.isEmpty = l.isEmpty := by
  cases vs <;> cases l <;> first | rfl | exact q.elim
theorem tru_v {v : V} {t : T} {k : Bool} (p : Pk K mg ρ I H v t) (e : truT t = some k) : TruV K v H k := by
  cases t with
  | non => cases (show v = .non from p); cases e; exact rfl
  | bl b => cases (show v = .bl b from p); cases e; exact rfl
  | int i => cases (show v = .int i from p); cases e; exact rfl
  | str s =>
    cases (show v = .str s from p)
    obtain ⟨c, rfl⟩ := ite_some (show (if _ then some _ else none) = some k from e)
    exact ⟨by rw [sizeLine_eq]; exact c, rfl⟩
  | tup l =>
    obtain ⟨a, vs, rfl, s, w⟩ := p
    cases e
    exact .inr (.inl ⟨vs, s.elim (fun u => .inl u.2) .inr, by rw [empty_eq w]⟩)
  | lst l =>
    obtain ⟨a, vs, rfl, s, w⟩ := p
    cases e
    exact .inl ⟨vs, SqL.of s, by rw [empty_eq w]⟩
  | slst l =>
    obtain ⟨a, vs, rfl, s, w⟩ := p
    cases e
    exact .inl ⟨vs, s.elim (fun u => .inl u.2) .inr, by rw [empty_eq w]⟩
  | _ => cases e
/-- an item -/
def rIxD (K : PySem.W.Frag) (mg : Mg) : R2 := fun x y H Q => ∃ ρ I h t u r, HR K mg ρ I h H ∧ Pk K mg ρ I H x t ∧ Rep K mg ρ I H y u ∧ ixR t u = some r ∧ ∀ v, Rep K mg ρ I H v r → Q v H
theorem ix_sound (hK : K = X.K) (hu : X.A.units + 65 < cLine) : IxR X (rIxD K mg) := by
  subst hK
  refine IxR.imp (IxR.or ix_seq (ix_d (by omega))) ?_
  intro x y H Q hh
  obtain ⟨ρ, I', h, t, u, r, hr, p, q, e, g⟩ := hh
  by_cases hd : ∃ l, t = .dct l
  · obtain ⟨l, rfl⟩ := hd
    have e' : (keyT u).bind (lookT l) = some r := by cases u <;> exact e
    obtain ⟨k, ek, el⟩ := Option.bind_eq_some_iff.mp e'
    obtain ⟨a, o, rfl, dg, h1, _⟩ := dget_of p q ek
    obtain ⟨w, rfl, rw'⟩ := h1 r el
    exact .inr ⟨a, w, rfl, dg, g w rw'⟩
  refine .inl ?_
  cases t <;> first | exact (hd ⟨_, rfl⟩).elim | skip
  all_goals cases u <;> try exact (no_some e).elim
  · rename_i z i
    obtain ⟨c, e⟩ := (show z.length ≤ SL ∧ (atI z.cps.toList i).map (fun c => T.str ⟨#[c]⟩) = some r from by
      have e' : (if z.length ≤ SL then (atI z.cps.toList i).map fun c => T.str ⟨#[c]⟩ else none) = some r := e
      split at e'
      · exact ⟨by assumption, e'⟩
      · cases e')
    cases f : atI z.cps.toList i with
    | none => rw [f] at e; cases e
    | some c' =>
      rw [f] at e
      cases e
      exact .inr (.inr ⟨z, i, c', p, q, by rw [sizeLine_eq]; exact c, f, g _ rfl⟩)
  · obtain ⟨a, vs, rfl, s, w⟩ := p
    obtain ⟨v', e1, rv⟩ := w.at e
    exact .inr (.inl ⟨a, vs, _, v', rfl, q, s.elim (fun u => .inl u.2) .inr, e1, g _ rv⟩)
  · obtain ⟨a, vs, rfl, s, w⟩ := p
    obtain ⟨v', e1, rv⟩ := w.at e
    exact .inl ⟨a, vs, _, v', rfl, q, SqL.of s, e1, g _ rv⟩
  · obtain ⟨a, vs, rfl, s, w⟩ := p
    obtain ⟨v', e1, rv⟩ := w.at e
    exact .inl ⟨a, vs, _, v', rfl, q, s.elim (fun u => .inl u.2) .inr, e1, g _ rv⟩
/-- a slice -/
theorem sl_sound (hK : K = X.K) : SlR X fun x lo hi H Q => ∃ ρ I h t r, HR K mg ρ I h H ∧ Pk K mg ρ I H x t ∧ slR t lo hi = some r ∧ Gv K mg ρ I h H Q r := by
  subst hK
  refine SlR.imp sl_list ?_
  intro x lo hi H Q hh
  obtain ⟨ρ, I', h, t, r, hr, p, e, g⟩ := hh
  cases t with
  | lst l =>
    obtain ⟨a, vs, rfl, s, w⟩ := p
    cases e
    exact ⟨a, vs, rfl, SqL.of s, fun p hp => g.al hr hp (w.cut lo hi)⟩
  | slst l =>
    obtain ⟨a, vs, rfl, s, w⟩ := p
    cases e
    exact ⟨a, vs, rfl, s.elim (fun u => .inl u.2) .inr, fun p hp => g.al hr hp (w.cut lo hi)⟩
  | _ => cases e
end
end VY
namespace VY
open PySem PySem.Spec
open PyProof.Rows hiding St
open L2

def Bf.name : Bf → Str
  | .len => "len" | .abs => "abs" | .int => "int" | .str => "str" | .isinstance => "isinstance" | .max => "max" | .min => "min" | .tuple => "tuple" | .list => "list" | .sum => "sum" | .any => "any" | .all => "all" | .sorted => "sorted"
def Bf.val : Bf → Value
  | .len => .builtin "len" | .abs => .builtin "abs" | .int => .type "int" | .str => .type "str" | .isinstance => .builtin "isinstance" | .max => .builtin "max" | .min => .builtin "min" | .tuple => .type "tuple" | .list => .type "list" | .sum => .builtin "sum" | .any => .builtin "any" | .all => .builtin "all" | .sorted => .builtin "sorted"
section
variable {X : Cx} {K : PySem.W.Frag} {mg : Mg} {ρ : List Addr} {I : Addr → Prop} {h : Hs} {H : Hp} {Q : VK}
def rBl (K : PySem.W.Frag) (mg : Mg) (f : Bf) : List V → Hp → VK → Prop := fun vs H Q => ∃ ρ I h ts r, HR K mg ρ I h H ∧ Pks K mg ρ I H vs ts ∧ bltR f ts = some r ∧ Gv K mg ρ I h H Q r
theorem pks1 {vs : List V} {t : T} (p : Pks K mg ρ I H vs [t]) : ∃ v, vs = [v] ∧ Pk K mg ρ I H v t := by
  match vs, p with
  | [v], p => exact ⟨v, rfl, p.1⟩
  | _ :: _ :: _, p => exact p.2.elim
theorem pks2 {vs : List V} {t u : T} (p : Pks K mg ρ I H vs [t, u]) : ∃ v w, vs = [v, w] ∧ Pk K mg ρ I H v t ∧ Pk K mg ρ I H w u := by
  match vs, p with
  | [v, w], p => exact ⟨v, w, rfl, p.1, p.2.1⟩
  | [_], p => exact p.2.elim
  | _ :: _ :: _ :: _, p => exact p.2.2.elim
theorem seq_of {a : Addr} {vs : List V} (s : (I a ∧ Rd H a (.lst vs)) ∨ StL K a vs) : SqL K H a vs := s.elim (fun u => .inl u.2) .inr
theorem seqT_of {a : Addr} {vs : List V} (s : (I a ∧ Rd H a (.tup vs)) ∨ StT K a vs) : SqT K H a vs := s.elim (fun u => .inl u.2) .inr
theorem ty_of {v : V} {t : T} {a : String} (p : Pk K mg ρ I H v t) (e : tyN t = some a) : TyX K H v (.type a) := by
  cases t with
  | non => cases e; cases (show v = .non from p); exact .base .non
  | bl b => cases e; cases (show v = .bl b from p); exact .base (.bl b)
  | int b => cases e; cases (show v = .int b from p); exact .base (.int b)
  | str b => cases e; cases (show v = .str b from p); exact .base (.str b)
  | tup l =>
    cases e
    obtain ⟨b, vs, rfl, s, _⟩ := p
    rcases s with ⟨_, s | ⟨o, s⟩⟩ | ⟨o, its, n, s, c, _⟩
    · exact .base (.tup s)
    · exact .fTuple s
    · exact .kTuple s c
  | lst l =>
    cases e
    obtain ⟨b, vs, rfl, s, _⟩ := p
    exact .base (.lst s)
  | slst l =>
    cases e
    obtain ⟨b, vs, rfl, s, _⟩ := p
    rcases s with ⟨_, s | ⟨o, s⟩⟩ | ⟨o, its, n, s, c, _⟩
    · exact .base (.lst s)
    · exact .base (.frz s)
    · exact .kList s c
  | _ => cases e
theorem isi_ok {a b : String} {r : Bool} (e : isiS a b = some r) : kitB a b = some r := by
  unfold isiS at e
  split at e
  · rename_i c
    simp only [Bool.and_eq_true, List.contains_iff_mem, List.mem_cons, List.not_mem_nil, or_false] at c
    obtain ⟨ca, cb⟩ := c
    have e' : (a == b || (a == "bool" && b == "int")) = r := Option.some.inj e
    rw [← e']
    rcases ca with rfl | rfl | rfl | rfl | rfl | rfl | rfl <;> rcases cb with rfl | rfl | rfl | rfl | rfl | rfl <;> decide +kernel
  · cases e
theorem len_v {v : V} {t : T} {n : Nat} (p : Pk K mg ρ I H v t) (e : lenT t = some n) : LenV K v H n := by
  cases t with
  | str s =>
    cases (show v = .str s from p)
    obtain ⟨c, rfl⟩ := ite_some (show (if _ then some _ else none) = some n from e)
    exact ⟨by rw [sizeLine_eq]; exact c, rfl⟩
  | tup l =>
    cases e
    obtain ⟨b, vs, rfl, s, w⟩ := p
    exact .inr ⟨vs, seqT_of s, w.length.symm⟩
  | lst l =>
    cases e
    obtain ⟨b, vs, rfl, s, w⟩ := p
    exact .inl ⟨vs, SqL.of s, w.length.symm⟩
  | slst l =>
    cases e
    obtain ⟨b, vs, rfl, s, w⟩ := p
    exact .inl ⟨vs, seq_of s, w.length.symm⟩
  | _ => cases e
theorem Gv.same {l : List T} {a : Addr} {vs : List V} (g : Gv K mg ρ I h H Q (.v (.tup l))) (r : HR K mg ρ I h H) (s : (I a ∧ Rd H a (.tup vs)) ∨ StT K a vs) (w : Reps K mg ρ I H vs l) : Q (.ref a) H := g.v r ⟨a, vs, rfl, s, w⟩
theorem ints_vs : ∀ {vs : List V} {l : List T} {ns : List Int}, Reps K mg ρ I H vs l → intsOf l = some ns → vs = ns.map V.int
  | [], [], ns, _, e => by cases e; rfl
  | v :: vs, t :: l, ns, ⟨a, b⟩, e => by
    cases t <;> try cases e
    rename_i i
    cases z : intsOf l with
    | none => rw [intsOf, z] at e; cases e
    | some ms =>
      rw [intsOf, z] at e
      cases e
      cases (show v = .int i from a)
      rw [ints_vs b z]
      rfl
theorem bls_vs : ∀ {vs : List V} {l : List T} {ns : List Bool}, Reps K mg ρ I H vs l → blsOf l = some ns → vs = ns.map V.bl
  | [], [], ns, _, e => by cases e; rfl
  | v :: vs, t :: l, ns, ⟨a, b⟩, e => by
    cases t <;> try cases e
    rename_i i
    cases z : blsOf l with
    | none => rw [blsOf, z] at e; cases e
    | some ms =>
      rw [blsOf, z] at e
      cases e
      cases (show v = .bl i from a)
      rw [bls_vs b z]
      rfl
theorem reps_ints : ∀ ns : List Int, Reps K mg ρ I H (ns.map V.int) (ns.map T.int)
  | [] => trivial
  | n :: ns => ⟨rfl, reps_ints ns⟩
theorem maxI_ok : ∀ {l : List Int} {m : Int}, maxI l = some m → m ∈ l ∧ ∀ a ∈ l, a ≤ m
  | [], _, e => by cases e
  | [a], m, e => by cases e; exact ⟨List.mem_cons_self, fun b hb => by simp at hb; omega⟩
  | a :: b :: l, m, e => by
    cases z : maxI (b :: l) with
    | none => rw [maxI, z] at e; cases e; exact fun e => by cases e
    | some k =>
      rw [maxI, z] at e
      · have e' : (if a < k then k else a) = m := Option.some.inj e
        obtain ⟨h1, h2⟩ := maxI_ok z
        split at e'
        · subst e'
          refine ⟨List.mem_cons_of_mem _ h1, fun c hc => ?_⟩
          rcases List.mem_cons.mp hc with rfl | hc
          · omega
          · exact h2 c hc
        · subst e'
          refine ⟨List.mem_cons_self, fun c hc => ?_⟩
          rcases List.mem_cons.mp hc with rfl | hc
          · omega
          · have := h2 c hc; omega
      · exact fun e => by cases e
theorem minI_ok : ∀ {l : List Int} {m : Int}, minI l = some m → m ∈ l ∧ ∀ a ∈ l, m ≤ a
  | [], _, e => by cases e
  | [a], m, e => by cases e; exact ⟨List.mem_cons_self, fun b hb => by simp at hb; omega⟩
  | a :: b :: l, m, e => by
    cases z : minI (b :: l) with
    | none => rw [minI, z] at e; cases e; exact fun e => by cases e
    | some k =>
      rw [minI, z] at e
      · have e' : (if k < a then k else a) = m := Option.some.inj e
        obtain ⟨h1, h2⟩ := minI_ok z
        split at e'
        · subst e'
          refine ⟨List.mem_cons_of_mem _ h1, fun c hc => ?_⟩
          rcases List.mem_cons.mp hc with rfl | hc
          · omega
          · exact h2 c hc
        · subst e'
          refine ⟨List.mem_cons_self, fun c hc => ?_⟩
          rcases List.mem_cons.mp hc with rfl | hc
          · omega
          · have := h2 c hc; omega
      · exact fun e => by cases e
theorem sortI_eq {ns ms : List Int} (p : ms.Perm ns) (q : ms.Pairwise (· ≤ ·)) : ms = sortI ns := by
  refine List.Perm.eq_of_pairwise (le := (· ≤ ·)) (fun a b _ _ h1 h2 => Int.le_antisymm h1 h2) q ?_ (p.trans (List.mergeSort_perm ..).symm)
  refine List.Pairwise.imp (fun h => of_decide_eq_true h) (List.pairwise_mergeSort (le := fun a b : Int => decide (a ≤ b)) (fun a b c h1 h2 => ?_) (fun a b => ?_) ns)
  · simp at h1 h2 ⊢; omega
  · simp; omega
theorem list1 {ts : List T} {vs : List V} {l : List T} (e : ts = [.lst l]) (p : Pks K mg ρ I H vs ts) : ∃ a ws, vs = [.ref a] ∧ SqL K H a ws ∧ Reps K mg ρ I H ws l := by
  subst e
  obtain ⟨v, rfl, a, ws, rfl, s, w⟩ := pks1 p
  exact ⟨a, ws, rfl, SqL.of s, w⟩
theorem blt_sound (hc : X.calm = true) (hK : K = X.K) (f : Bf) : CallR X f.val (rBl K mg f) := by
  subst hK
  cases f with
  | len =>
    refine CallR.imp call_len ?_
    rintro vs H Q ⟨ρ, I, h, ts, r, hr, p, e, g⟩
    match ts, p, e with
    | [t], p, e =>
      obtain ⟨v, rfl, p1⟩ := pks1 p
      cases y : lenT t with
      | none => rw [bltR, y] at e; cases e
      | some n => rw [bltR, y] at e; cases e; exact ⟨v, n, rfl, len_v p1 y, g.v hr rfl⟩
  | abs =>
    refine CallR.imp call_abs ?_
    rintro vs H Q ⟨ρ, I, h, ts, r, hr, p, e, g⟩
    match ts, p, e with
    | [.int i], p, e =>
      obtain ⟨v, rfl, p1⟩ := pks1 p
      cases (show v = .int i from p1)
      cases e
      exact ⟨i, rfl, g.v hr rfl⟩
  | int =>
    refine CallR.imp call_int1 ?_
    rintro vs H Q ⟨ρ, I, h, ts, r, hr, p, e, g⟩
    match ts, p, e with
    | [.int i], p, e =>
      obtain ⟨v, rfl, p1⟩ := pks1 p
      cases (show v = .int i from p1)
      cases e
      exact .inl ⟨i, rfl, g.v hr rfl⟩
    | [.bl i], p, e =>
      obtain ⟨v, rfl, p1⟩ := pks1 p
      cases (show v = .bl i from p1)
      cases e
      exact .inr ⟨i, rfl, g.v hr rfl⟩
  | str =>
    refine CallR.imp call_str_int ?_
    rintro vs H Q ⟨ρ, I, h, ts, r, hr, p, e, g⟩
    match ts, p, e with
    | [.int i], p, e =>
      obtain ⟨v, rfl, p1⟩ := pks1 p
      cases (show v = .int i from p1)
      obtain ⟨c, rfl⟩ := ite_some (show (if _ then some _ else none) = some r from e)
      exact ⟨i, rfl, c, g.v hr rfl⟩
  | isinstance =>
    refine CallR.imp call_isi ?_
    rintro vs H Q ⟨ρ, I, h, ts, r, hr, p, e, g⟩
    match ts, p, e with
    | [t, .ty n], p, e =>
      obtain ⟨v, w, rfl, p1, q1⟩ := pks2 p
      cases (show w = .ty n from q1)
      cases y : tyN t with
      | none => rw [bltR, y] at e; cases e
      | some a =>
        rw [bltR, y] at e
        have e1 : (isiS a n).map (fun b => R.v (.bl b)) = some r := e
        cases z : isiS a n with
        | none => rw [z] at e1; cases e1
        | some b =>
          rw [z] at e1
          cases e1
          exact ⟨v, .ty n, .type a, .type n, b, rfl, .ty n, ty_of p1 y, kit_ty (isi_ok z), g.v hr rfl⟩
  | max =>
    refine CallR.imp (CallR.or (call_max2 hc) (cr_max hc)) ?_
    rintro vs H Q ⟨ρ, I, h, ts, r, hr, p, e, g⟩
    match ts, p, e with
    | [.int i, .int j], p, e =>
      obtain ⟨v, w, rfl, p1, q1⟩ := pks2 p
      cases (show v = .int i from p1)
      cases (show w = .int j from q1)
      cases e
      exact .inl ⟨i, j, rfl, g.v hr rfl⟩
    | [.lst l], p, e =>
      obtain ⟨a, ws, rfl, s, w⟩ := list1 rfl p
      obtain ⟨m, em, rfl⟩ := Option.map_eq_some_iff.mp (show ((intsOf l).bind maxI).map (fun n => R.v (.int n)) = some r from e)
      obtain ⟨ns, en, em⟩ := Option.bind_eq_some_iff.mp em
      rw [ints_vs w en] at s
      obtain ⟨k1, k2⟩ := maxI_ok em
      refine .inr ⟨a, ns, rfl, s, List.length_pos_of_mem k1, fun m' h1 h2 => ?_⟩
      have := k2 m' h1
      have := h2 m k1
      have e : m' = m := by omega
      subst e
      exact g.v hr rfl
  | min =>
    refine CallR.imp (CallR.or (call_min2 hc) (cr_min hc)) ?_
    rintro vs H Q ⟨ρ, I, h, ts, r, hr, p, e, g⟩
    match ts, p, e with
    | [.int i, .int j], p, e =>
      obtain ⟨v, w, rfl, p1, q1⟩ := pks2 p
      cases (show v = .int i from p1)
      cases (show w = .int j from q1)
      cases e
      exact .inl ⟨i, j, rfl, g.v hr rfl⟩
    | [.lst l], p, e =>
      obtain ⟨a, ws, rfl, s, w⟩ := list1 rfl p
      obtain ⟨m, em, rfl⟩ := Option.map_eq_some_iff.mp (show ((intsOf l).bind minI).map (fun n => R.v (.int n)) = some r from e)
      obtain ⟨ns, en, em⟩ := Option.bind_eq_some_iff.mp em
      rw [ints_vs w en] at s
      obtain ⟨k1, k2⟩ := minI_ok em
      refine .inr ⟨a, ns, rfl, s, List.length_pos_of_mem k1, fun m' h1 h2 => ?_⟩
      have := k2 m' h1
      have := h2 m k1
      have e : m' = m := by omega
      subst e
      exact g.v hr rfl
  | tuple =>
    refine CallR.imp call_tuple_of ?_
    rintro vs H Q ⟨ρ, I, h, ts, r, hr, p, e, g⟩
    match ts, p, e with
    | [.lst l], p, e =>
      obtain ⟨v, rfl, p1⟩ := pks1 p
      obtain ⟨a, vs, rfl, s, w⟩ := p1
      cases e
      exact ⟨a, vs, rfl, .inl ⟨SqL.of s, fun p hp => g.tup hr hp w⟩⟩
    | [.slst l], p, e =>
      obtain ⟨v, rfl, p1⟩ := pks1 p
      obtain ⟨a, vs, rfl, s, w⟩ := p1
      cases e
      exact ⟨a, vs, rfl, .inl ⟨seq_of s, fun p hp => g.tup hr hp w⟩⟩
    | [.tup l], p, e =>
      obtain ⟨v, rfl, p1⟩ := pks1 p
      obtain ⟨a, vs, rfl, s, w⟩ := p1
      cases e
      exact ⟨a, vs, rfl, .inr ⟨seqT_of s, g.same hr s w⟩⟩
  | list =>
    refine CallR.imp call_list_of ?_
    rintro vs H Q ⟨ρ, I, h, ts, r, hr, p, e, g⟩
    match ts, p, e with
    | [.lst l], p, e =>
      obtain ⟨v, rfl, p1⟩ := pks1 p
      obtain ⟨a, vs, rfl, s, w⟩ := p1
      cases e
      exact ⟨a, vs, rfl, .inl (SqL.of s), fun p hp => g.al hr hp w⟩
    | [.slst l], p, e =>
      obtain ⟨v, rfl, p1⟩ := pks1 p
      obtain ⟨a, vs, rfl, s, w⟩ := p1
      cases e
      exact ⟨a, vs, rfl, .inl (seq_of s), fun p hp => g.al hr hp w⟩
    | [.tup l], p, e =>
      obtain ⟨v, rfl, p1⟩ := pks1 p
      obtain ⟨a, vs, rfl, s, w⟩ := p1
      cases e
      exact ⟨a, vs, rfl, .inr (seqT_of s), fun p hp => g.al hr hp w⟩
  | sum =>
    refine CallR.imp (cr_sum hc) ?_
    rintro vs H Q ⟨ρ, I, h, ts, r, hr, p, e, g⟩
    match ts, p, e with
    | [.lst l], p, e =>
      obtain ⟨a, ws, rfl, s, w⟩ := list1 rfl p
      obtain ⟨ns, en, rfl⟩ := Option.map_eq_some_iff.mp (show (intsOf l).map (fun ns => R.v (.int ns.sum)) = some r from e)
      rw [ints_vs w en] at s
      exact ⟨a, ns, rfl, s, g.v hr rfl⟩
  | any =>
    refine CallR.imp (cr_any hc) ?_
    rintro vs H Q ⟨ρ, I, h, ts, r, hr, p, e, g⟩
    match ts, p, e with
    | [.lst l], p, e =>
      obtain ⟨a, ws, rfl, s, w⟩ := list1 rfl p
      obtain ⟨ns, en, rfl⟩ := Option.map_eq_some_iff.mp (show (blsOf l).map (fun bs => R.v (.bl (bs.any id))) = some r from e)
      rw [bls_vs w en] at s
      exact ⟨a, ns, rfl, s, g.v hr rfl⟩
  | all =>
    refine CallR.imp (cr_all hc) ?_
    rintro vs H Q ⟨ρ, I, h, ts, r, hr, p, e, g⟩
    match ts, p, e with
    | [.lst l], p, e =>
      obtain ⟨a, ws, rfl, s, w⟩ := list1 rfl p
      obtain ⟨ns, en, rfl⟩ := Option.map_eq_some_iff.mp (show (blsOf l).map (fun bs => R.v (.bl (bs.all id))) = some r from e)
      rw [bls_vs w en] at s
      exact ⟨a, ns, rfl, s, g.v hr rfl⟩
  | sorted =>
    refine CallR.imp cr_sortedI ?_
    rintro vs H Q ⟨ρ, I, h, ts, r, hr, p, e, g⟩
    match ts, p, e with
    | [.lst l], p, e =>
      obtain ⟨a, ws, rfl, s, w⟩ := list1 rfl p
      obtain ⟨ns, en, rfl⟩ := Option.map_eq_some_iff.mp (show (intsOf l).map (fun ns => R.al ((sortI ns).map .int)) = some r from e)
      rw [ints_vs w en] at s
      refine ⟨a, ns, rfl, s, fun ms p h1 h2 hp => ?_⟩
      rw [sortI_eq h1 h2]
      exact g.al hr hp (reps_ints _)
end
end VY
namespace VY
open PySem PySem.Spec
open PyProof.Rows hiding St
open L2

/-- the names of the text: defs, globals by number -/
structure Nms where
  n : Nat
  fn : Nat → Str
  gl : Nat → Str
  hot : Bool := false
def plainN (x : Str) : Bool := !(x == ("__debug__" : Str)) && !(x == ("__classdict__" : Str))
def visB (sc : Scope) (x : Str) : Bool := match sc.names.lookup x with
  | some .local => true | some .cell => true | some .free => true | _ => false
def locB (sc : Scope) (x : Str) : Bool := match sc.names.lookup x with
  | some .local => true | some .cell => true | _ => false
def glbB (sc : Scope) (x : Str) : Bool := match sc.names.lookup x with
  | some .globalImplicit => plainN x | _ => false
def notStar : Expr → Bool
  | .Starred .. => false | _ => true
def notSet : Expr → Bool
  | .Set .. => false | _ => true
def notSlice : Expr → Bool
  | .Slice .. => false | _ => true
/-- an expression whose test is its value's truth -/
def plainT : Expr → Bool
  | .UnaryOp .. => false | .BoolOp .. => false | .IfExp .. => false | .Compare .. => false | _ => true
def mC : CT → Const → Bool
  | .non, .none => true
  | .bl b, .bool c => b == c
  | .int i, .int j => decide (i = j)
  | .str s, .str z => decide (s = z)
  | _, _ => false
mutual
def ownOf (nm : List Str) : Tg → List (Str × Nat)
  | .nm i => [(nm.getD i Str.empty, i)]
  | .tp l => ownOfs nm l
def ownOfs (nm : List Str) : List Tg → List (Str × Nat)
  | [] => []
  | g :: l => ownOf nm g ++ ownOfs nm l
end
mutual
def mTg (sc : Scope) (nm : List Str) : Tg → Expr → Bool
  | .nm i, .Name x _ => decide (nm[i]? = some x) && locB sc x
  | .tp l, .Tuple es _ _ => mTgs sc nm l es
  | _, _ => false
def mTgs (sc : Scope) (nm : List Str) : List Tg → List Expr → Bool
  | [], [] => true
  | g :: l, e :: es => notStar e && mTg sc nm g e && mTgs sc nm l es
  | _, _ => false
end
/-- the built-in names that are used besides -/
def frees : List Str := ["range", "set", "enumerate", "zip", "reversed", "dict", "type", "repr", "ZeroDivisionError"]
def shpRev : Expr → Option (List Expr)
  | .Subscript e (.Slice none none (some (.UnaryOp .USub (.Constant (.int i) _ _) _)) _) _ => if i = 1 then some [e] else none
  | _ => none
def shpLns (sc : Scope) : Expr → Option (List Expr)
  | .Call (.Name x _) [.Call (.Name y _) [a] [] _] [] _ => if decide (x = "len") && decide (y = "set") && glbB sc x && glbB sc y && notStar a then some [a] else none
  | _ => none
def shpFdv : Expr → Option (List Expr)
  | .BinOp a .FloorDiv b _ => some [a, b]
  | _ => none
/-- the parts of what is written for an operation -/
def shp (sc : Scope) (o : Op) (e : Expr) : Option (List Expr) := match o with
  | .rev => shpRev e
  | .lns => shpLns sc e
  | .fdv => shpFdv e
def Mt.name : Mt → Str
  | .index => "index" | .get => "get" | .reverse => "reverse"
def Mt.ar : Mt → Nat
  | .index => 1 | .get => 2 | .reverse => 0
/-- no call of super -/
def baseOk : Expr → Bool
  | .Call (.Name x _) [] [] _ => !(x == ("super" : Str))
  | _ => true
variable (N : Nms) (nm : List Str)
mutual
def mE (sc : Scope) : E → Expr → Bool
  | .c k, e => match e with
    | .Constant c _ _ => mC k c
    | _ => false
  | .var i, e => match e with
    | .Name x _ => decide (nm[i]? = some x) && visB sc x && plainN x
    | _ => false
  | .gl g, e => match e with
    | .Name x _ => decide (x = N.gl g) && glbB sc x
    | _ => false
  | .bin op a b, e => match e with
    | .BinOp l o r _ => decide (o = op) && mE sc a l && mE sc b r
    | _ => false
  | .neg a, e => match e with
    | .UnaryOp .USub x _ => mE sc a x
    | _ => false
  | .not a, e => match e with
    | .UnaryOp .Not x _ => mE sc a x
    | _ => false
  | .bop op es, e => match e with
    | .BoolOp o vs _ => decide (o = op) && mEs sc es vs
    | _ => false
  | .cmp op a b, e => match e with
    | .Compare l ops rs _ => (match ops, rs with
      | [o], [r] => decide (o = op) && mE sc a l && mE sc b r && notSet r
      | _, _ => false)
    | _ => false
  | .ch op op' a b c, e => match e with
    | .Compare l ops rs _ => (match ops, rs with
      | [o, o'], [r, r'] => decide (o = op) && decide (o' = op') && mE sc a l && mE sc b r && mE sc c r' && notSet r'
      | _, _ => false)
    | _ => false
  | .ife c a b, e => match e with
    | .IfExp t x y _ => mCd sc c t && mE sc a x && mE sc b y
    | _ => false
  | .tup es, e => match e with
    | .Tuple xs _ _ => mEs sc es xs && xs.all notStar
    | _ => false
  | .lst es, e => match e with
    | .List xs _ => mEs sc es xs && xs.all notStar
    | _ => false
  | .ix a b, e => match e with
    | .Subscript x i _ => mE sc a x && mE sc b i && notSlice i
    | _ => false
  | .sl a lo hi, e => match e with
    | .Subscript x i _ => (match i with
      | .Slice l u none _ => mE sc a x && mO sc lo l && mO sc hi u
      | _ => false)
    | _ => false
  | .call f es, e => match e with
    | .Call (.Name x _) xs [] _ => !N.hot && decide (f < N.n) && decide (x = N.fn f) && glbB sc x && mEs sc es xs && xs.all notStar
    | _ => false
  | .op o es, e => !N.hot && (match shp sc o e with
    | some xs => mEs sc es xs
    | none => false)
  | .mth m o es, e => match e with
    | .Call (.Attribute pe a ap) xs [] cp => !N.hot && decide (a = m.name) && (ap.endLine == cp.line) && baseOk pe && mE sc o pe && mEs sc es xs && xs.all notStar && decide (xs.length = m.ar)
    | _ => false
  | .dsp es, e => match e with
    | .Dict ks vs _ => mKV sc es ks vs && decide (ks.length ≤ 15) && !ks.isEmpty
    | _ => false
  | .callv i es, e => match e with
    | .Call (.Name x _) xs [] _ => !N.hot && decide (nm[i]? = some x) && visB sc x && plainN x && mEs sc es xs && xs.all notStar && !xs.isEmpty
    | _ => false
  | .blt f es, e => match e with
    | .Call (.Name x _) xs [] _ => !N.hot && decide (x = f.name) && glbB sc x && mEs sc es xs && xs.all notStar && !xs.isEmpty
    | _ => false
  | .lc elt tg it cond, e => match e with
    | .ListComp el gs scope _ => (match gs with
      | [⟨t, iter, ifs, a⟩] => !N.hot && decide (a = 0) && blkC nm sc scope (ownOf nm tg) && mTg scope nm tg t && mIt sc it iter && notSet iter && mE (relS scope sc) elt el &&
          (match ifs with
          | [] => (match cond with | .yes => true | _ => false)
          | [c] => (match cond with | .yes => false | _ => mCd (relS scope sc) cond c)
          | _ => false)
      | _ => false)
    | _ => false
def mO (sc : Scope) : O → Option Expr → Bool
  | .no, none => true
  | .at e, some x => mE sc e x
  | _, _ => false
def mIt (sc : Scope) : It → Expr → Bool
  | .e x, e => mE sc x e && notSet e
  | .r1 a, e => match e with
    | .Call (.Name x _) xs [] _ => (match xs with
      | [y] => decide (x = "range") && glbB sc x && mE sc a y && notStar y
      | _ => false)
    | _ => false
  | .r2 a b, e => match e with
    | .Call (.Name x _) xs [] _ => (match xs with
      | [y, z] => decide (x = "range") && glbB sc x && mE sc a y && mE sc b z && notStar y && notStar z
      | _ => false)
    | _ => false
def mCd (sc : Scope) : C → Expr → Bool
  | .yes, _ => false
  | .t e, x => (match e with
    | .cmp .. => mE sc e x
    | .ch .. => mE sc e x
    | _ => mE sc e x && plainT x)
  | .not c, x => match x with
    | .UnaryOp .Not y _ => mCd sc c y
    | _ => false
  | .bop op cs, x => match x with
    | .BoolOp o vs _ => decide (o = op) && mCds sc cs vs
    | _ => false
def mCds (sc : Scope) : List C → List Expr → Bool
  | [], [] => true
  | c :: cs, x :: xs => mCd sc c x && mCds sc cs xs
  | _, _ => false
def mKV (sc : Scope) : List E → List (Option Expr) → List Expr → Bool
  | [], [], [] => true
  | k :: v :: es, some pk :: ks, pv :: vs => mE sc k pk && mE sc v pv && mKV sc es ks vs
  | _, _, _ => false
def mEs (sc : Scope) : List E → List Expr → Bool
  | [], [] => true
  | e :: es, x :: xs => mE sc e x && mEs sc es xs
  | _, _ => false
end
end VY
namespace VY
open PySem PySem.Spec
open PyProof.Rows hiding St
open L2

/-- a def's promise: what the interpreter's call does -/
def spD (K : PySem.W.Frag) (mg : Mg) (call : List T → Hs → Out R) (n : Nat) : Sp := fun vs H Q E => vs.length = n ∧ ∃ ρ I h ts, HR K mg ρ I h H ∧ Reps K mg ρ I H vs ts ∧
  Nx K mg (fun cls d _ H' => E cls d H') [] ρ I h H (call ts h) fun r h' ρ' I' H' => ∀ v, RO K mg ρ' I' h' H' H [] [] v r → Q v H'
/-- what the context gives -/
structure Gd (X : Cx) (N : Nms) (Γ : Ctx) (k : Nat) (W : WX) : Prop where
  calm : N.hot = false → X.calm = true
  room : N.hot = false → Room k X.A
  hu : X.A.units + 65 < cLine
  nd : X.N.Nodup
  gl : ∀ x t, Γ.gv x = some t → ∃ v u, (X.mg (N.gl x) = some u ∨ (X.mg (N.gl x) = none ∧ bootBuiltins (N.gl x) = some u ∧ N.gl x ≠ "__name__")) ∧ RelV v u ∧ ∀ ρ I H, Rep X.K X.M ρ I H v t
  fn : ∀ f, f < N.n → ∃ (a : Addr) (fd : FuncData) (ps : List Str), X.mg (N.fn f) = some (.ref a) ∧ PySem.W.keepIn X.K (.ref a) = true ∧ Binds X.K fd ps [] ∧
    FnOk X.prog X.w X.K X.M X.base (CX X.prog X.w) k a fd ps (spD X.K X.M (Γ.call f) ps.length) ∧ ∀ ts h, Γ.call f ts h ≠ .bad → ts.length = ps.length
  ix : ∀ x f, Γ.ix x = some f → f < N.n ∧ N.fn f = x
  wd : ∀ g z t, Γ.wd g z = some t → ∃ p v, X.mg g = some (.ref p) ∧ KDct X.K X.w p z v ∧ ∀ ρ I H, Rep X.K X.M ρ I H v t
  bl : ∀ b : Bf, X.mg b.name = none
  fr : ∀ x ∈ frees, X.mg x = none
  tk : Takes X W
theorem star_eq {e : Expr} {es : List Expr} {env : Env} (h : notStar e = true) : starEach (e :: es) env = (false, eval e env) :: starEach es env := by
  cases e <;> first | rfl | cases h
theorem star_any {env : Env} {pos : Pos} : ∀ {es : List Expr}, es.all notStar = true → (backTo pos (starEach es env)).any (·.1) = false
  | [], _ => rfl
  | e :: es, h => by
    rw [List.all_cons] at h
    rw [star_eq (and_tt h).1]
    show (false || (backTo pos (starEach es env)).any (·.1)) = false
    rw [star_any (and_tt h).2]
    rfl
theorem plain_ix {b : Expr} (h : notSlice b = true) : PlainIx b := fun o i => by cases b <;> first | rfl | cases h
theorem not_marks {op : CmpOp} {b : Expr} (h : notSet b = true) : behindInMarks op b = false := by cases b <;> first | rfl | cases h
theorem not_folded {e : Expr} {env : Env} (h : notSet e = true) : ∀ x, foldedSetIterable e env x = pure x := fun x => by cases e <;> first | rfl | cases h
theorem plain_true {e : Expr} {env : Env} (h : plainT e = true) : ∀ whole, isTrue e env whole = (do let v ← whole; standAt e.pos; holding [v] (truthy v)) := fun whole => by cases e <;> first | rfl | cases h
theorem plain_dbg {x : Str} (h : plainN x = true) : (x == ("__debug__" : Str)) = false ∧ (x == ("__classdict__" : Str)) = false := by
  have q := and_tt h
  exact ⟨by simpa using q.1, by simpa using q.2⟩
theorem vis_of {sc : Scope} {x : Str} (h : visB sc x = true) : Vis sc x := by
  unfold visB at h
  split at h
  · exact .inl (by assumption)
  · exact .inr (.inl (by assumption))
  · exact .inr (.inr (by assumption))
  · cases h
theorem loc_of {sc : Scope} {x : Str} (h : locB sc x = true) : Loc sc x := by
  unfold locB at h
  split at h
  · exact .inl (by assumption)
  · exact .inr (by assumption)
  · cases h
theorem glb_of {X : Cx} {x : Str} (h : glbB X.env.scope x = true) : Gl X x ∧ plainN x = true := by
  unfold glbB at h
  split at h
  · exact ⟨by assumption, h⟩
  · cases h
section
variable {X : Cx} {N : Nms} {Γ : Ctx} {k : Nat} {W : WX}
theorem Gd.blk (G : Gd X N Γ k W) (s : Shared) (H : Hp) (scope : Scope) (cenv : Env) (fp : List Addr) : Gd (X.blk s H scope cenv fp) N Γ k (fun _ _ _ _ => False) :=
  ⟨G.calm, G.room, G.hu, G.nd, G.gl, G.fn, G.ix, G.wd, G.bl, G.fr, fun _ _ ⟨_, _, _, _, _, _, _, _, _, _, _, _, _, _, _, _, w⟩ => w⟩
theorem s_c {k' : CT} {c : Const} {j : Nat} {pos : Pos} (m : mC k' c = true) : PE X (.Constant c j pos) (tD X.K X.M W (evE Γ (.c k'))) := by
  cases k' <;> cases c <;> try cases m
  · exact PE.imp pe_non fun σ H Q ⟨ρ, I, σT, h, hr, sr, n⟩ => n ρ I H .refl hr _ rfl
  · rename_i b c
    have e : b = c := by simpa [mC] using m
    subst e
    exact PE.imp pe_bl fun σ H Q ⟨ρ, I, σT, h, hr, sr, n⟩ => n ρ I H .refl hr _ rfl
  · rename_i b c
    have e : b = c := by simpa [mC] using m
    subst e
    exact PE.imp pe_int fun σ H Q ⟨ρ, I, σT, h, hr, sr, n⟩ => n ρ I H .refl hr _ rfl
  · rename_i b c
    have e : b = c := by simpa [mC] using m
    subst e
    exact PE.imp pe_str fun σ H Q ⟨ρ, I, σT, h, hr, sr, n⟩ => n ρ I H .refl hr _ rfl
theorem s_var {i : Nat} {x : Str} {pos : Pos} (hi : X.N[i]? = some x) (hv : visB X.env.scope x = true) (hp : plainN x = true) : PE X (.Name x pos) (tD X.K X.M W (evE Γ (.var i))) := by
  refine PE.imp (pe_var hi (vis_of hv) (plain_dbg hp).1 (plain_dbg hp).2) ?_
  rintro σ H Q ⟨ρ, I, σT, h, hr, sr, n⟩
  rw [evE] at n
  split at n
  · rename_i t e
    obtain ⟨v, q, p⟩ := sr.vs i t e
    exact ⟨v, q, n ρ I H .refl hr v p⟩
  · rename_i l e
    obtain ⟨a, vs, q, _⟩ := sr.als i l e
    exact ⟨.ref a, q, n ρ I H .refl hr _ ⟨q, l, e⟩⟩
  · exact n.elim
theorem s_gl (G : Gd X N Γ k W) {g : Nat} {x : Str} {pos : Pos} (e : x = N.gl g) (hx : glbB X.env.scope x = true) : PE X (.Name x pos) (tD X.K X.M W (evE Γ (.gl g))) := by
  subst e
  obtain ⟨hg, hp⟩ := glb_of hx
  cases z : Γ.gv g with
  | none =>
    refine ⟨fun pins s σ H Q I hw => ?_⟩
    obtain ⟨ρ, I', σT, h, hr, sr, n⟩ := hw
    rw [evE, z] at n
    exact n.elim
  | some t =>
    obtain ⟨v, u, hm, r, rep⟩ := G.gl g t z
    have fin : ∀ σ H Q, tD X.K X.M W (evE Γ (.gl g)) σ H Q → tC v σ H Q := by
      rintro σ H Q ⟨ρ, I, σT, h, hr, sr, n⟩
      rw [evE, z] at n
      exact n ρ I H .refl hr v (rep ρ I H)
    rcases hm with hm | ⟨hm, hb, hn⟩
    · exact PE.imp (pe_glob hg hm r (plain_dbg hp).1) fin
    · exact PE.imp (pe_bltn hg hm hb r hn (plain_dbg hp).1) fin
section
variable {a b c : E} {pa pb pc : Expr} {pos : Pos}
theorem s_bin (op : Operator) (ha : PE X pa (tD X.K X.M W (evE Γ a))) (hb : PE X pb (tD X.K X.M W (evE Γ b))) : PE X (.BinOp pa op pb pos) (tD X.K X.M W (evE Γ (.bin op a b))) := by
  refine PE.imp (pe_op (op_sound (K := X.K) (mg := X.M) op) ha hb) ?_
  rintro σ H Q ⟨ρ, I, σT, h, hr, sr, n⟩
  rw [evE] at n
  refine ⟨ρ, I, σT, h, hr, sr, n.bind.imp fun x h1 ρ1 I1 H1 x1 r1 n1 v o1 => ?_⟩
  refine ⟨ρ1, I1, σT, h1, r1, sr.ext hr x1, n1.bind.imp fun y h2 ρ2 I2 H2 x2 r2 n2 u o2 => ?_⟩
  have s2 := (sr.ext hr x1).ext r1 x2
  unfold opL at n2
  split at n2
  · rename_i t w e1 e2
    obtain ⟨r, er, g⟩ := n2.lift
    exact ⟨ρ2, I2, h2, t, w, r, r2, (o1.ext r1 x2).pk s2 r2 e1, o2.pk s2 r2 e2, er, fun z H' ρ' I' x' r' o' => g ρ' I' H' x' r' z (o'.any.back fun a d => x2.dom a (x1.dom a d))⟩
  · exact n2.elim
theorem s_neg (ha : PE X pa (tD X.K X.M W (evE Γ a))) : PE X (.UnaryOp .USub pa pos) (tD X.K X.M W (evE Γ (.neg a))) := by
  refine PE.imp (pe_un un_neg ha) ?_
  rintro σ H Q ⟨ρ, I, σT, h, hr, sr, n⟩
  rw [evE] at n
  refine ⟨ρ, I, σT, h, hr, sr, n.bind.imp fun x h1 ρ1 I1 H1 x1 r1 n1 v o1 => ?_⟩
  split at n1
  · rename_i i
    exact ⟨i, o1, n1 ρ1 I1 H1 .refl r1 _ rfl⟩
  · exact n1.elim
theorem tru_n {x : R} {σT : Slots} {σ : St} {ρ : List Addr} {I : Addr → Prop} {h : Hs} {H H0 : Hp} {v : V} {kk : Bool → Hs → List Addr → (Addr → Prop) → Hp → Prop} (n : Nx X.K X.M W σ ρ I h H (truL σT x h) kk)
    (o : RO X.K X.M ρ I h H H0 σT σ v x) (sr : SR X.K X.M ρ I h H σT σ) (hr : HR X.K X.M ρ I h H) : ∃ b, TruV X.K v H b ∧ Nx X.K X.M W σ ρ I h H (.ok b h) kk := by
  unfold truL at n
  split at n
  · rename_i t e
    obtain ⟨b, eb, g⟩ := n.lift
    exact ⟨b, tru_v (o.pk sr hr e) eb, g⟩
  · exact n.elim
theorem s_not (ha : PE X pa (tD X.K X.M W (evE Γ a))) : PE X (.UnaryOp .Not pa pos) (tD X.K X.M W (evE Γ (.not a))) := by
  refine PE.imp (pe_notT ha) ?_
  rintro σ H Q ⟨ρ, I, σT, h, hr, sr, n⟩
  rw [evE] at n
  refine ⟨ρ, I, σT, h, hr, sr, n.bind.imp fun x h1 ρ1 I1 H1 x1 r1 n1 v o1 => ?_⟩
  obtain ⟨b, tv, n2⟩ := tru_n n1.bind o1 (sr.ext hr x1) r1
  exact ⟨b, tv, n2 ρ1 I1 H1 .refl r1 ρ1 I1 H1 .refl r1 _ rfl⟩
theorem s_cmp (G : Gd X N Γ k W) (op : CmpOp) (ha : PE X pa (tD X.K X.M W (evE Γ a))) (hb : PE X pb (tD X.K X.M W (evE Γ b))) {σ : St} {H : Hp} {Q : VK} (q : tD X.K X.M W (evE Γ (.cmp op a b)) σ H Q) :
    tOp (rCmp X.K X.M op) (tD X.K X.M W (evE Γ a)) (tD X.K X.M W (evE Γ b)) σ H fun v H' => (∃ k, v = .bl k) ∧ Q v H' := by
  obtain ⟨ρ, I, σT, h, hr, sr, n⟩ := q
  rw [evE] at n
  refine ⟨ρ, I, σT, h, hr, sr, n.bind.imp fun x h1 ρ1 I1 H1 x1 r1 n1 v o1 => ?_⟩
  refine ⟨ρ1, I1, σT, h1, r1, sr.ext hr x1, n1.bind.imp fun y h2 ρ2 I2 H2 x2 r2 n2 u o2 => ?_⟩
  have s2 := (sr.ext hr x1).ext r1 x2
  have n3 := n2.bind
  unfold cmpL at n3
  split at n3
  · rename_i t w e1 e2
    obtain ⟨r, er, g⟩ := n3.lift
    exact ⟨ρ2, I2, h2, t, w, r, r2, (o1.ext r1 x2).pk s2 r2 e1, o2.pk s2 r2 e2, er, ⟨r, rfl⟩, g ρ2 I2 H2 .refl r2 ρ2 I2 H2 .refl r2 _ rfl⟩
  · exact n3.elim
theorem cmp_n {op : CmpOp} {x y : R} {σT : Slots} {σ : St} {ρ : List Addr} {I : Addr → Prop} {h : Hs} {H H0 H0' : Hp} {v u : V} {kk : Bool → Hs → List Addr → (Addr → Prop) → Hp → Prop} (n : Nx X.K X.M W σ ρ I h H (cmpL σT op x y h) kk)
    (o1 : RO X.K X.M ρ I h H H0 σT σ v x) (o2 : RO X.K X.M ρ I h H H0' σT σ u y) (sr : SR X.K X.M ρ I h H σT σ) (hr : HR X.K X.M ρ I h H) : ∃ t w r, Pk X.K X.M ρ I H v t ∧ Pk X.K X.M ρ I H u w ∧ cmpR op t w = some r ∧ Nx X.K X.M W σ ρ I h H (.ok r h) kk := by
  unfold cmpL at n
  split at n
  · rename_i t w e1 e2
    obtain ⟨r, er, g⟩ := n.lift
    exact ⟨t, w, r, o1.pk sr hr e1, o2.pk sr hr e2, er, g⟩
  · exact n.elim
theorem s_ch (G : Gd X N Γ k W) (op op' : CmpOp) {σ : St} {H : Hp} {Q : VK} (q : tD X.K X.M W (evE Γ (.ch op op' a b c)) σ H Q) :
    tChain (rCmp X.K X.M op) (rCmp X.K X.M op') (tD X.K X.M W (evE Γ a)) (tD X.K X.M W (evE Γ b)) (tD X.K X.M W (evE Γ c)) σ H fun v H' => (∃ k, v = .bl k) ∧ Q v H' := by
  obtain ⟨ρ, I, σT, h, hr, sr, n⟩ := q
  rw [evE] at n
  refine ⟨ρ, I, σT, h, hr, sr, n.bind.imp fun x h1 ρ1 I1 H1 x1 r1 n1 v o1 => ?_⟩
  refine ⟨ρ1, I1, σT, h1, r1, sr.ext hr x1, n1.bind.imp fun y h2 ρ2 I2 H2 x2 r2 n2 u o2 => ?_⟩
  have s2 := (sr.ext hr x1).ext r1 x2
  obtain ⟨t, w, r, p1, p2, er, g⟩ := cmp_n n2.bind (o1.ext r1 x2) o2 s2 r2
  refine ⟨ρ2, I2, h2, t, w, r, r2, p1, p2, er, r, rfl, ?_⟩
  have n4 := g ρ2 I2 H2 .refl r2
  cases r with
  | false => exact ⟨⟨false, rfl⟩, n4 ρ2 I2 H2 .refl r2 _ rfl⟩
  | true =>
    rw [if_pos rfl] at n4
    refine ⟨ρ2, I2, σT, h2, r2, s2, n4.bind.imp fun z h4 ρ4 I4 H4 x4 r4 n6 uz o4 => ?_⟩
    have s4 := s2.ext r2 x4
    obtain ⟨t', w', r', p1', p2', er', g'⟩ := cmp_n n6.bind (o2.ext r2 x4) o4 s4 r4
    exact ⟨ρ4, I4, h4, t', w', r', r4, p1', p2', er', ⟨r', rfl⟩, g' ρ4 I4 H4 .refl r4 ρ4 I4 H4 .refl r4 _ rfl⟩
theorem base_of {e : Expr} {x : Str} {env : Env} {w : Sem Value} (h : baseOk e = true) : attributeBase e x env w = w := by
  unfold baseOk at h
  unfold attributeBase
  split at h
  · rename_i y _ _
    have hy : (y != ("super" : Str)) = true := by simpa using h
    simp only [hy, Bool.true_or, if_true]
  · rename_i hn
    split
    · exact (hn _ _ _ rfl).elim
    · rfl
theorem s_ix (G : Gd X N Γ k W) (ha : PE X pa (tD X.K X.M W (evE Γ a))) (hb : PE X pb (tD X.K X.M W (evE Γ b))) (hs : notSlice pb = true) : PE X (.Subscript pa pb pos) (tD X.K X.M W (evE Γ (.ix a b))) := by
  refine PE.imp (pe_ix (IxR.or ix_kdict (ix_sound (mg := X.M) rfl G.hu)) ha hb (plain_ix hs)) ?_
  rintro σ H Q ⟨ρ, I, σT, h, hr, sr, n⟩
  rw [evE] at n
  refine ⟨ρ, I, σT, h, hr, sr, n.bind.imp fun x h1 ρ1 I1 H1 x1 r1 n1 v o1 => ?_⟩
  refine ⟨ρ1, I1, σT, h1, r1, sr.ext hr x1, n1.bind.imp fun y h2 ρ2 I2 H2 x2 r2 n2 u o2 => ?_⟩
  have s2 := (sr.ext hr x1).ext r1 x2
  unfold ixL at n2
  split at n2
  · rename_i g z
    obtain ⟨r, er, gg⟩ := n2.lift
    cases y : Γ.wd g z with
    | none => rw [y] at er; cases er
    | some t' =>
      rw [y] at er
      cases er
      obtain ⟨p, v', hm, kd, rp⟩ := G.wd g z t' y
      obtain ⟨a, rfl, hm'⟩ := (show ∃ a, v = .ref a ∧ X.mg g = some (.ref a) from o1)
      rw [hm] at hm'
      cases hm'
      exact .inl ⟨p, z, v', rfl, o2, kd, gg ρ2 I2 H2 .refl r2 v' (rp ρ2 I2 H2)⟩
  · refine .inr ?_
    split at n2
    · rename_i t w e1 _
      obtain ⟨r, er, g⟩ := n2.lift
      cases z : ixR t w with
      | none => rw [z] at er; cases er
      | some t' =>
        rw [z] at er
        cases er
        exact ⟨ρ2, I2, h2, t, w, t', r2, (o1.ext r1 x2).pk s2 r2 e1, o2, z, fun w rw' => g ρ2 I2 H2 .refl r2 w rw'⟩
    · exact n2.elim
end
end
end VY
namespace VY
open PySem PySem.Spec
open PyProof.Rows hiding St
open L2
section
variable {X : Cx} {N : Nms} {Γ : Ctx} {k : Nat} {W : WX} {a b c : E} {pa pb pc : Expr} {pos : Pos} {es : List E} {ps : List Expr}
theorem s_es0 : PA X [] (tEs X.K X.M W (evEs Γ [])) := PA.imp pa_nil fun σ H Q ⟨ρ, I, σT, h, hr, sr, n⟩ => n ρ I H .refl hr [] trivial
theorem s_es1 (ha : PE X pa (tD X.K X.M W (evE Γ a))) (hs : PA X ps (tEs X.K X.M W (evEs Γ es))) (m : notStar pa = true) : PA X (pa :: ps) (tEs X.K X.M W (evEs Γ (a :: es))) := by
  refine PA.imp (pa_cons ha hs (star_eq m)) ?_
  rintro σ H Q ⟨ρ, I, σT, h, hr, sr, n⟩
  rw [evEs] at n
  refine ⟨ρ, I, σT, h, hr, sr, n.bind.imp' fun x h1 ρ1 I1 H1 x1 r1 n0 v o1 => ?_⟩
  cases e : frz x with
  | none => have n1 := n0 ρ1 I1 H1 x1 r1; rw [e] at n1; exact n1.elim
  | some t =>
    obtain ⟨I2, x2, r2, q2⟩ := o1.keep x1 r1 e
    have n1 := n0 ρ1 I2 H1 x2 r2
    rw [e] at n1
    exact ⟨ρ1, I2, σT, h1, r2, sr.ext hr x2, n1.bind.imp fun ts h' ρ' I' H' x' r' n' vs q => n' ρ' I' H' .refl r' (v :: vs) ⟨q2.mono (x'.kp r2), q⟩⟩
theorem ROs.ext {ρ ρ' : List Addr} {I I' : Addr → Prop} {h h' : Hs} {H H' H0 : Hp} {σT : Slots} {σ : St} {K : PySem.W.Frag} {mg : Mg} (hr : HR K mg ρ I h H) (x : Ext ρ I h H ρ' I' h' H') : ∀ {vs : List V} {rs : List R}, ROs K mg ρ I h H H0 σT σ vs rs → ROs K mg ρ' I' h' H' H0 σT σ vs rs
  | [], [], _ => trivial
  | _ :: _, _ :: _, ⟨a, b⟩ => ⟨a.ext hr x, ROs.ext hr x b⟩
theorem s_rs0 : PA X [] (tRs X.K X.M W (evRs Γ [])) := PA.imp pa_nil fun σ H Q ⟨ρ, I, σT, h, hr, sr, n⟩ => n ρ I H .refl hr [] trivial
theorem s_rs1 (ha : PE X pa (tD X.K X.M W (evE Γ a))) (hs : PA X ps (tRs X.K X.M W (evRs Γ es))) (m : notStar pa = true) : PA X (pa :: ps) (tRs X.K X.M W (evRs Γ (a :: es))) := by
  refine PA.imp (pa_cons ha hs (star_eq m)) ?_
  rintro σ H Q ⟨ρ, I, σT, h, hr, sr, n⟩
  rw [evRs] at n
  refine ⟨ρ, I, σT, h, hr, sr, n.bind.imp fun x h1 ρ1 I1 H1 x1 r1 n1 v o1 => ?_⟩
  have s1 := sr.ext hr x1
  exact ⟨ρ1, I1, σT, h1, r1, s1, n1.bind.imp fun rs h' ρ' I' H' x' r' n' vs q => n' ρ' I' H' .refl r' (v :: vs) ⟨o1.ext r1 x', q.back x1.dom⟩⟩
theorem s_tup {j : Nat} (hs : PA X ps (tEs X.K X.M W (evEs Γ es))) : PE X (.Tuple ps j pos) (tD X.K X.M W (evE Γ (.tup es))) := by
  refine PE.imp (pe_tup hs) ?_
  rintro σ H Q ⟨ρ, I, σT, h, hr, sr, n⟩
  rw [evE] at n
  refine ⟨ρ, I, σT, h, hr, sr, n.bind.imp fun ts h1 ρ1 I1 H1 x1 r1 n1 vs q => ?_⟩
  split at n1
  · rename_i c
    exact ⟨by rw [q.length, sizeLine_eq]; exact c, fun p hp => n1 ρ1 (Iw I1 p) _ (ext_imm _ hp) (hr_imm _ r1 hp) (.ref p) ⟨p, vs, rfl, .inl ⟨.inr rfl, .of upd_same⟩, q.mono ((ext_imm (h := h1) _ hp).kp r1)⟩⟩
  · exact n1.elim
theorem s_lst (hs : PA X ps (tEs X.K X.M W (evEs Γ es))) : PE X (.List ps pos) (tD X.K X.M W (evE Γ (.lst es))) := by
  refine PE.imp (pe_lst hs) ?_
  rintro σ H Q ⟨ρ, I, σT, h, hr, sr, n⟩
  rw [evE] at n
  refine ⟨ρ, I, σT, h, hr, sr, n.bind.imp fun ts h1 ρ1 I1 H1 x1 r1 n1 vs q => ?_⟩
  split at n1
  · rename_i c
    refine ⟨by rw [q.length, sizeLine_eq]; exact c, fun p hp => n1 ρ1 I1 _ (ext_new _ hp) (hr_new _ r1 hp) (.ref p) ⟨p, vs, rfl, ?_, upd_same, fun z => not_none (r1.idom p z) hp, fun z => not_none (live_some r1 z) hp, q.mono (kp_new _ r1 hp)⟩⟩
    cases z : H p with
    | none => rfl
    | some _ => exact (not_none (x1.dom p (isSome_of z)) hp).elim
  · exact n1.elim
theorem s_blt (G : Gd X N Γ k W) {f : Bf} {p : Pos} (hg : glbB X.env.scope f.name = true) (hh : N.hot = false) (hs : PA X (pa :: ps) (tRs X.K X.M W (evRs Γ es))) (m : (pa :: ps).all notStar = true) : PE X (.Call (.Name f.name p) (pa :: ps) [] pos) (tD X.K X.M W (evE Γ (.blt f es))) := by
  obtain ⟨hG, hp⟩ := glb_of hg
  rw [List.all_cons] at m
  have fin : ∀ σ H Q, tD X.K X.M W (evE Γ (.blt f es)) σ H Q → tCB (rBl X.K X.M f) (tRs X.K X.M W (evRs Γ es)) σ H Q := by
    rintro σ H Q ⟨ρ, I, σT, h, hr, sr, n⟩
    rw [evE] at n
    refine ⟨ρ, I, σT, h, hr, sr, n.bind.imp fun rs h1 ρ1 I1 H1 x1 r1 n1 vs q => ?_⟩
    obtain ⟨r, er, g⟩ := n1.lift
    obtain ⟨ts, ep, er⟩ := Option.bind_eq_some_iff.mp er
    exact ⟨ρ1, I1, h1, ts, r, r1, q.pks (sr.ext hr x1) r1 ep, er, fun z H' ρ' I' x' r' o' => g ρ' I' H' x' r' z (o'.any.back fun a d => x1.dom a d)⟩
  have cs := blt_sound (mg := X.M) (G.calm hh) rfl f
  have e1 := (plain_dbg hp).1
  have e2 := star_eq (es := ps) (env := X.env) (and_tt m).1
  have e3 := star_any (env := X.env) (pos := pos) (and_tt m).2
  refine PE.imp ?_ fin
  have hm := G.bl f
  cases f with
  | len => exact pe_callB (id := "len") cs hG hm (by decide +kernel) hs (by decide) e1 e2 e3
  | abs => exact pe_callB (id := "abs") cs hG hm (by decide +kernel) hs (by decide) e1 e2 e3
  | isinstance => exact pe_callB (id := "isinstance") cs hG hm (by decide +kernel) hs (by decide) e1 e2 e3
  | max => exact pe_callB (id := "max") cs hG hm (by decide +kernel) hs (by decide) e1 e2 e3
  | min => exact pe_callB (id := "min") cs hG hm (by decide +kernel) hs (by decide) e1 e2 e3
  | sum => exact pe_callB (id := "sum") cs hG hm (by decide +kernel) hs (by decide) e1 e2 e3
  | any => exact pe_callB (id := "any") cs hG hm (by decide +kernel) hs (by decide) e1 e2 e3
  | all => exact pe_callB (id := "all") cs hG hm (by decide +kernel) hs (by decide) e1 e2 e3
  | sorted => exact pe_callB (id := "sorted") cs hG hm (by decide +kernel) hs (by decide) e1 e2 e3
  | int => exact pe_callTy (T := "int") cs hG hm (by decide +kernel) hs (by decide) e1 e2 e3
  | str => exact pe_callTy (T := "str") cs hG hm (by decide +kernel) hs (by decide) e1 e2 e3
  | tuple => exact pe_callTy (T := "tuple") cs hG hm (by decide +kernel) hs (by decide) e1 e2 e3
  | list => exact pe_callTy (T := "list") cs hG hm (by decide +kernel) hs (by decide) e1 e2 e3
/-- f() -/
theorem pe_call0SD {CX : CXT} {f : Addr} {fd : FuncData} {pn : List Str} {sp : Sp} {dvs : List V} {ds : List Value} {E : St → XK} {x : Str} {p : Pos} (F : FnOk X.prog X.w X.K X.M X.base CX k f fd pn sp) (hr : Room k X.A) (hg : Gl X x) (hm : X.mg x = some (.ref f)) (hk : PySem.W.keepIn X.K (.ref f) = true)
    (hb : Binds X.K fd pn ds) (hd : Vals dvs ds) (hx : ∀ σ, PassesAt CX X σ (E σ)) (hdb : (x == ("__debug__" : Str)) = false) : PE X (.Call (.Name x p) [] [] pos) (tCallSD sp dvs E tNil) := by
  refine ⟨fun pins s σ H Q I h => ?_⟩
  refine wpAny_Call_Name_kw (ld_glob I hg hm ?_ hdb)
  exact PySem.W.callWith_K0 I.kIn hk (run_fnSD (us := []) (vs := []) F hr hb hd (hx σ) I .nil h)
theorem s_call (G : Gd X N Γ k W) (hh : N.hot = false) {f : Nat} {x : Str} {p : Pos} (hf : f < N.n) (e : x = N.fn f) (hg : glbB X.env.scope x = true) (hs : PA X ps (tEs X.K X.M W (evEs Γ es))) (m : ps.all notStar = true) (hn : ps = [] → es = []) : PE X (.Call (.Name x p) ps [] pos) (tD X.K X.M W (evE Γ (.call f es))) := by
  subst e
  obtain ⟨hG, hp⟩ := glb_of hg
  obtain ⟨a, fd, pn, hm, hk, bd, F, hl⟩ := G.fn f hf
  have fin : ∀ σ H Q, tD X.K X.M W (evE Γ (.call f es)) σ H Q → tCallSD (spD X.K X.M (Γ.call f) pn.length) [] (WE W) (tEs X.K X.M W (evEs Γ es)) σ H Q := by
    rintro σ H Q ⟨ρ, I, σT, h, hr, sr, n⟩
    rw [evE] at n
    refine ⟨ρ, I, σT, h, hr, sr, n.bind.imp fun ts h1 ρ1 I1 H1 x1 r1 n1 vs q => ?_⟩
    show spD X.K X.M (Γ.call f) pn.length (vs ++ []) H1 Q (WE W σ)
    rw [List.append_nil]
    have nb : Γ.call f ts h1 ≠ .bad := fun z => by rw [z] at n1; exact n1
    refine ⟨by rw [q.length, hl ts h1 nb], ρ1, I1, h1, ts, r1, q, ?_⟩
    cases e : Γ.call f ts h1 with
    | bad => exact (nb e).elim
    | ok r h2 =>
      rw [e] at n1
      exact fun ρ2 I2 H2 x2 r2 v o => n1 ρ2 I2 H2 x2 r2 v (o.any.back fun a d => x1.dom a d)
    | ex y h2 =>
      rw [e] at n1
      exact n1
  have hx : ∀ σ, PassesAt (CX X.prog X.w) X σ (WE W σ) := passAt G.tk
  cases ps with
  | nil =>
    refine PE.imp (pe_call0SD F (G.room hh) hG hm hk bd .nil hx (plain_dbg hp).1) fun σ H Q q => ?_
    have q' := fin σ H Q q
    obtain ⟨ρ, I, σT, h, hr, sr, n⟩ := q'
    cases hn rfl
    exact n ρ I H .refl hr [] trivial
  | cons pa ps =>
    rw [List.all_cons] at m
    exact PE.imp (pe_callSD F (G.room hh) hG hm hk bd .nil hx hs (plain_dbg hp).1 (star_eq (and_tt m).1) (star_any (and_tt m).2)) fin
/-- a call of what a slot holds -/
def tCallSL (i : Nat) (f : Addr) (sp : Sp) (dvs : List V) (E : St → XK) (t : TA) : TE := fun σ H Q => σ[i]? = some (some (.ref f)) ∧ t σ H fun vs H1 => sp (vs ++ dvs) H1 Q (E σ)
theorem pe_callSL {CX : CXT} {i : Nat} {f : Addr} {fd : FuncData} {pn : List Str} {sp : Sp} {dvs : List V} {ds : List Value} {E : St → XK} {x : Str} {p : Pos} {e : Expr} {es : List Expr} {t : TA} (F : FnOk X.prog X.w X.K X.mg X.base CX k f fd pn sp) (hr : Room k X.A) (hN : X.N[i]? = some x) (hv : Vis X.env.scope x)
    (hk : PySem.W.keepIn X.K (.ref f) = true) (hb : Binds X.K fd pn ds) (hd : Vals dvs ds) (hx : ∀ σ, PassesAt CX X σ (E σ)) (ha : PA X (e :: es) t) (hdb : (x == ("__debug__" : Str)) = false) (hcd : (x == ("__classdict__" : Str)) = false)
    (he : starEach (e :: es) X.env = (false, eval e X.env) :: starEach es X.env) (hpl : (backTo pos (starEach es X.env)).any (·.1) = false) : PE X (.Call (.Name x p) (e :: es) [] pos) (tCallSL i f sp dvs E t) := by
  refine ⟨fun pins s σ H Q I ⟨hs, ht⟩ => ?_⟩
  refine wpAny_Call_Name_kw (thn ((pe_var (pos := p) hN hv hdb hcd).run pins s σ H (fun v H1 => v = .ref f ∧ H1 = H) I ⟨.ref f, hs, rfl, rfl⟩) fun u s1 ⟨v, H1, I1, r1, e1, e2⟩ => ?_)
  subst e1 e2
  cases r1
  exact PySem.W.callWith_K (h₀ := X.base) I.ok.mod.kin hk (thn (ha.run pos pins s1 σ _ _ I1 ht) fun us s2 ⟨vs, H2, I2, r, q⟩ => ⟨I2.kIn, run_fnSD F hr hb hd (hx σ) I2 r q⟩) he hpl
theorem s_callv (G : Gd X N Γ k W) (hh : N.hot = false) {i : Nat} {x : Str} {p : Pos} (hi : X.N[i]? = some x) (hv : visB X.env.scope x = true) (hp : plainN x = true) (hs : PA X (pa :: ps) (tEs X.K X.M W (evEs Γ es))) (m : (pa :: ps).all notStar = true) :
    PE X (.Call (.Name x p) (pa :: ps) [] pos) (tD X.K X.M W (evE Γ (.callv i es))) := by
  refine ⟨fun pins s σ H Q I q => ?_⟩
  obtain ⟨ρ, I0, σT, h, hr, sr, n⟩ := q
  rw [evE] at n
  rw [List.all_cons] at m
  split at n
  · rename_i y ey
    cases e : Γ.ix y with
    | none => rw [e] at n; exact n.elim
    | some f =>
      rw [e] at n
      obtain ⟨hf, ef⟩ := G.ix y f e
      obtain ⟨a, fd, pn, hm, hk, bd, F, hl⟩ := G.fn f hf
      obtain ⟨v, ev, b, rfl, eb⟩ := sr.vs i _ ey
      have eb' : X.mg y = some (.ref b) := eb
      rw [← ef, hm] at eb'
      cases eb'
      refine (pe_callSL (E := WE W) (dvs := []) F (G.room hh) hi (vis_of hv) hk bd .nil (passAt G.tk) hs (plain_dbg hp).1 (plain_dbg hp).2 (star_eq (and_tt m).1) (star_any (and_tt m).2)).run pins s σ H Q I ⟨ev, ρ, I0, σT, h, hr, sr, n.bind.imp fun ts h1 ρ1 I1 H1 x1 r1 n1 vs q => ?_⟩
      show spD X.K X.M (Γ.call f) pn.length (vs ++ []) H1 Q (WE W σ)
      rw [List.append_nil]
      have nb : Γ.call f ts h1 ≠ .bad := fun z => by rw [z] at n1; exact n1
      refine ⟨by rw [q.length, hl ts h1 nb], ρ1, I1, h1, ts, r1, q, ?_⟩
      cases e : Γ.call f ts h1 with
      | bad => exact (nb e).elim
      | ok r h2 =>
        rw [e] at n1
        exact fun ρ2 I2 H2 x2 r2 v o => n1 ρ2 I2 H2 x2 r2 v (o.any.back fun a d => x1.dom a d)
      | ex y h2 =>
        rw [e] at n1
        exact n1
  · exact n.elim
def tO (K : PySem.W.Frag) (mg : Mg) (W : WX) (f : Slots → Hs → Out (Option Int)) : TO := fun σ H Q => ∃ ρ I σT h, HR K mg ρ I h H ∧ SR K mg ρ I h H σT σ ∧
  Nx K mg W σ ρ I h H (f σT h) fun o h' ρ' I' H' => Q o H'
theorem PO.imp {e : Option Expr} {t t' : TO} (p : PO X e t) (f : ∀ σ H Q, t' σ H Q → t σ H Q) : PO X e t' := by
  constructor
  intros
  apply p.run <;> first | assumption | (apply f; assumption)
theorem s_o0 : PO X none (tO X.K X.M W (evO Γ .no)) := PO.imp po_none fun σ H Q ⟨ρ, I, σT, h, hr, sr, n⟩ => n ρ I H .refl hr
theorem s_o1 (ha : PE X pa (tD X.K X.M W (evE Γ a))) : PO X (some pa) (tO X.K X.M W (evO Γ (.at a))) := by
  refine PO.imp (po_some ha) ?_
  rintro σ H Q ⟨ρ, I, σT, h, hr, sr, n⟩
  rw [evO] at n
  refine ⟨ρ, I, σT, h, hr, sr, n.bind.imp fun x h1 ρ1 I1 H1 x1 r1 n1 v o1 => ?_⟩
  split at n1
  · rename_i i
    exact ⟨i, o1, n1 ρ1 I1 H1 .refl r1⟩
  · exact n1.elim
theorem s_sl {lo hi : O} {pl pu : Option Expr} {p2 : Pos} (ha : PE X pa (tD X.K X.M W (evE Γ a))) (hl : PO X pl (tO X.K X.M W (evO Γ lo))) (hu : PO X pu (tO X.K X.M W (evO Γ hi))) : PE X (.Subscript pa (.Slice pl pu none p2) pos) (tD X.K X.M W (evE Γ (.sl a lo hi))) := by
  refine PE.imp (pe_slice (sl_sound (mg := X.M) rfl) ha hl hu) ?_
  rintro σ H Q ⟨ρ, I, σT, h, hr, sr, n⟩
  rw [evE] at n
  refine ⟨ρ, I, σT, h, hr, sr, n.bind.imp fun x h1 ρ1 I1 H1 x1 r1 n1 v o1 => ?_⟩
  have s1 := sr.ext hr x1
  refine ⟨ρ1, I1, σT, h1, r1, s1, n1.bind.imp fun l h2 ρ2 I2 H2 x2 r2 n2 => ?_⟩
  have s2 := s1.ext r1 x2
  refine ⟨ρ2, I2, σT, h2, r2, s2, n2.bind.imp fun u h3 ρ3 I3 H3 x3 r3 n3 => ?_⟩
  cases e : peek σT h3 x with
  | none => rw [e] at n3; exact n3.elim
  | some t =>
    rw [e] at n3
    obtain ⟨r, er, g⟩ := n3.lift
    exact ⟨ρ3, I3, h3, t, r, r3, ((o1.ext r1 x2).ext r2 x3).pk (s2.ext r2 x3) r3 e, er, fun z H' ρ' I' x' r' o' => g ρ' I' H' x' r' z (o'.any.back fun a d => x3.dom a (x2.dom a (x1.dom a d)))⟩
theorem s_ife {c : C} (hc : PT X pc (tB X.K X.M W (evC Γ c))) (ha : PE X pa (tD X.K X.M W (evE Γ a))) (hb : PE X pb (tD X.K X.M W (evE Γ b))) : PE X (.IfExp pc pa pb pos) (tD X.K X.M W (evE Γ (.ife c a b))) := by
  refine PE.imp (pe_ifExp hc ha hb) ?_
  rintro σ H Q ⟨ρ, I, σT, h, hr, sr, n⟩
  rw [evE] at n
  refine ⟨ρ, I, σT, h, hr, sr, n.bind.imp fun k h1 ρ1 I1 H1 x1 r1 n1 => ?_⟩
  have s1 := sr.ext hr x1
  have fin : ∀ e, Nx X.K X.M W σ ρ1 I1 h1 H1 (evE Γ e σT h1) (fun r h' ρ' I' H' => ∀ v, RO X.K X.M ρ' I' h' H' H σT σ v r → Q v H') → tD X.K X.M W (evE Γ e) σ H1 Q := fun e n1 =>
    ⟨ρ1, I1, σT, h1, r1, s1, n1.imp fun r h' ρ' I' H' x' r' n' v o => n' v (o.back x1.dom)⟩
  cases k with
  | true => exact fin a n1
  | false => exact fin b n1
theorem s_b1 {op : BoolOp} (ha : PE X pa (tD X.K X.M W (evE Γ a))) : PE X (.BoolOp op [pa] pos) (tD X.K X.M W (evB Γ op [a])) := pe_one ha
theorem s_b2 {op : BoolOp} {e : E} {pe : Expr} (ha : PE X pa (tD X.K X.M W (evE Γ a))) (hs : PE X (.BoolOp op (pe :: ps) pos) (tD X.K X.M W (evB Γ op (e :: es)))) : PE X (.BoolOp op (pa :: pe :: ps) pos) (tD X.K X.M W (evB Γ op (a :: e :: es))) := by
  have core : ∀ σ H Q, tD X.K X.M W (evB Γ op (a :: e :: es)) σ H Q → tD X.K X.M W (evE Γ a) σ H fun x H1 => ∃ k, TruV X.K x H1 k ∧ if k == (op == .Or) then Q x H1 else tD X.K X.M W (evB Γ op (e :: es)) σ H1 Q := by
    rintro σ H Q ⟨ρ, I, σT, h, hr, sr, n⟩
    have n' : Nx X.K X.M W σ ρ I h H ((evE Γ a σT h).bind fun x h1 => (truL σT x h1).bind fun k h2 => if k == (op == .Or) then .ok x h2 else evB Γ op (e :: es) σT h2) _ := n
    refine ⟨ρ, I, σT, h, hr, sr, n'.bind.imp fun x h1 ρ1 I1 H1 x1 r1 n1 v o1 => ?_⟩
    have s1 := sr.ext hr x1
    obtain ⟨k, tv, n2⟩ := tru_n n1.bind o1 s1 r1
    refine ⟨k, tv, ?_⟩
    have n3 := n2 ρ1 I1 H1 .refl r1
    split
    · rename_i z; simp only [if_pos z] at n3; exact n3 ρ1 I1 H1 .refl r1 v o1
    · rename_i z; simp only [if_neg z] at n3
      exact ⟨ρ1, I1, σT, h1, r1, s1, n3.imp fun r h' ρ' I' H' x' r' n' v o => n' v (o.back x1.dom)⟩
  cases op with
  | And =>
    refine PE.imp (pe_andT ha hs) fun σ H Q q => ?_
    obtain ⟨ρ, I, σT, h, hr, sr, n⟩ := core σ H Q q
    refine ⟨ρ, I, σT, h, hr, sr, n.imp fun r h' ρ' I' H' x' r' n' v o => ?_⟩
    obtain ⟨k, tv, q⟩ := n' v o
    refine ⟨k, tv, ?_⟩
    cases k with
    | true => exact q
    | false => exact q
  | Or =>
    refine PE.imp (pe_orT ha hs) fun σ H Q q => ?_
    obtain ⟨ρ, I, σT, h, hr, sr, n⟩ := core σ H Q q
    refine ⟨ρ, I, σT, h, hr, sr, n.imp fun r h' ρ' I' H' x' r' n' v o => ?_⟩
    obtain ⟨k, tv, q⟩ := n' v o
    refine ⟨k, tv, ?_⟩
    cases k with
    | true => exact q
    | false => exact q
theorem s_t (ha : PE X pa (tD X.K X.M W (evE Γ a))) (m : plainT pa = true) : PT X pa (tB X.K X.M W (evC Γ (.t a))) := by
  refine PT.imp (pt_truth ha (plain_true m)) ?_
  rintro σ H Q ⟨ρ, I, σT, h, hr, sr, n⟩
  rw [evC] at n
  refine ⟨ρ, I, σT, h, hr, sr, n.bind.imp fun x h1 ρ1 I1 H1 x1 r1 n1 v o1 => ?_⟩
  obtain ⟨b, tv, n2⟩ := tru_n n1 o1 (sr.ext hr x1) r1
  exact ⟨b, tv, n2 ρ1 I1 H1 .refl r1⟩
/-- a test that gives a truth -/
theorem t_bl {σ : St} {H : Hp} {Q : Bool → Hp → Prop} {e : E} (q : tB X.K X.M W (evC Γ (.t e)) σ H Q) : tD X.K X.M W (evE Γ e) σ H fun v H' => ∀ k, v = .bl k → Q k H' := by
  obtain ⟨ρ, I, σT, h, hr, sr, n⟩ := q
  rw [evC] at n
  refine ⟨ρ, I, σT, h, hr, sr, n.bind.imp fun x h1 ρ1 I1 H1 x1 r1 n1 v o1 k e => ?_⟩
  obtain ⟨b, tv, n2⟩ := tru_n n1 o1 (sr.ext hr x1) r1
  subst e
  cases (show b = k from tv)
  exact n2 ρ1 I1 H1 .refl r1
theorem s_tcmp (G : Gd X N Γ k W) (op : CmpOp) (ha : PE X pa (tD X.K X.M W (evE Γ a))) (hb : PE X pb (tD X.K X.M W (evE Γ b))) (m : notSet pb = true) : PT X (.Compare pa [op] [pb] pos) (tB X.K X.M W (evC Γ (.t (.cmp op a b)))) := by
  refine PT.imp (pt_cmpR (cmp_sound (mg := X.M) rfl G.hu op) ha hb (not_marks m)) fun σ H Q q => ?_
  have q2 := s_cmp G op ha hb (t_bl q)
  obtain ⟨ρ, I, σT, h, hr, sr, n⟩ := q2
  refine ⟨ρ, I, σT, h, hr, sr, n.imp fun r h' ρ' I' H' x' r' n' v o => ?_⟩
  obtain ⟨ρ1, I1, σ1, h1, hr1, sr1, n1⟩ := n' v o
  refine ⟨ρ1, I1, σ1, h1, hr1, sr1, n1.imp fun r h' ρ' I' H' x' r' n' v o => ?_⟩
  obtain ⟨ρ2, I2, h2, t, u, k, a1, a2, a3, a4, ⟨k', e⟩, a5⟩ := n' v o
  exact ⟨ρ2, I2, h2, t, u, k, a1, a2, a3, a4, k, rfl, a5 k rfl⟩
theorem chain_imp {r r' : R2} {ta tb tc : TE} {σ : St} {H : Hp} {Q Q' : VK} (ma : ∀ H Q Q', (∀ v H', Q v H' → Q' v H') → ta σ H Q → ta σ H Q') (mb : ∀ H Q Q', (∀ v H', Q v H' → Q' v H') → tb σ H Q → tb σ H Q') (mc : ∀ H Q Q', (∀ v H', Q v H' → Q' v H') → tc σ H Q → tc σ H Q')
    (mr : ∀ x y H Q Q', (∀ v H', Q v H' → Q' v H') → r x y H Q → r x y H Q') (mr' : ∀ x y H Q Q', (∀ v H', Q v H' → Q' v H') → r' x y H Q → r' x y H Q') (f : ∀ v H', Q v H' → Q' v H') (q : tChain r r' ta tb tc σ H Q) : tChain r r' ta tb tc σ H Q' := by
  refine ma _ _ _ (fun x H1 q => mb _ _ _ (fun y H2 q => mr _ _ _ _ _ (fun z H3 q => ?_) q) q) q
  obtain ⟨k, e, q⟩ := q
  refine ⟨k, e, ?_⟩
  cases k with
  | true => exact mc _ _ _ (fun w H4 q => mr' _ _ _ _ _ f q) q
  | false => exact f _ _ q
theorem tD_imp {f : Slots → Hs → Out R} {σ : St} (H : Hp) (Q Q' : VK) (g : ∀ v H', Q v H' → Q' v H') (q : tD X.K X.M W f σ H Q) : tD X.K X.M W f σ H Q' := by
  obtain ⟨ρ, I, σT, h, hr, sr, n⟩ := q
  exact ⟨ρ, I, σT, h, hr, sr, n.imp fun r h' ρ' I' H' x' r' n' v o => g _ _ (n' v o)⟩
theorem rCmp_imp {op : CmpOp} (x y : V) (H : Hp) (Q Q' : VK) (g : ∀ v H', Q v H' → Q' v H') (q : rCmp X.K X.M op x y H Q) : rCmp X.K X.M op x y H Q' := by
  obtain ⟨ρ2, I2, h2, t, u, k, a1, a2, a3, a4, a5⟩ := q
  exact ⟨ρ2, I2, h2, t, u, k, a1, a2, a3, a4, g _ _ a5⟩
theorem s_tch (G : Gd X N Γ k W) (op op' : CmpOp) (ha : PE X pa (tD X.K X.M W (evE Γ a))) (hb : PE X pb (tD X.K X.M W (evE Γ b))) (hc : PE X pc (tD X.K X.M W (evE Γ c))) (m : notSet pc = true) :
    PT X (.Compare pa [op, op'] [pb, pc] pos) (tB X.K X.M W (evC Γ (.t (.ch op op' a b c)))) := by
  refine PT.imp (pt_chain (cmp_sound (mg := X.M) rfl G.hu op) (cmp_sound (mg := X.M) rfl G.hu op') ha hb hc (show behindInMarks op' pc = false from not_marks m)) fun σ H Q q => ?_
  refine chain_imp tD_imp tD_imp tD_imp rCmp_imp rCmp_imp ?_ (s_ch G op op' (t_bl q))
  rintro v H' ⟨⟨k, rfl⟩, z⟩
  exact ⟨k, rfl, z k rfl⟩
theorem s_tnot {c : C} (hc : PT X pc (tB X.K X.M W (evC Γ c))) : PT X (.UnaryOp .Not pc pos) (tB X.K X.M W (evC Γ (.not c))) := by
  refine PT.imp (pt_not hc) ?_
  rintro σ H Q ⟨ρ, I, σT, h, hr, sr, n⟩
  rw [evC] at n
  exact ⟨ρ, I, σT, h, hr, sr, n.bind.imp fun b h' ρ' I' H' x' r' n' => n' ρ' I' H' .refl r'⟩
theorem s_tb1 {op : BoolOp} {c : C} (hc : PT X pc (tB X.K X.M W (evC Γ c))) : PW X (.BoolOp op [pc] pos) (tB X.K X.M W (evCs Γ op [c])) := by
  cases op with
  | And => exact pw_and1 hc
  | Or => exact pw_or1 hc
theorem s_tb2 {op : BoolOp} {c d : C} {cs : List C} {pd : Expr} (hc : PT X pc (tB X.K X.M W (evC Γ c))) (hs : PW X (.BoolOp op (pd :: ps) pos) (tB X.K X.M W (evCs Γ op (d :: cs)))) : PW X (.BoolOp op (pc :: pd :: ps) pos) (tB X.K X.M W (evCs Γ op (c :: d :: cs))) := by
  have core : ∀ σ H Q, tB X.K X.M W (evCs Γ op (c :: d :: cs)) σ H Q → tB X.K X.M W (evC Γ c) σ H fun k H1 => if k == (op == .Or) then Q k H1 else tB X.K X.M W (evCs Γ op (d :: cs)) σ H1 Q := by
    rintro σ H Q ⟨ρ, I, σT, h, hr, sr, n⟩
    have n' : Nx X.K X.M W σ ρ I h H ((evC Γ c σT h).bind fun k h1 => if k == (op == .Or) then .ok k h1 else evCs Γ op (d :: cs) σT h1) _ := n
    refine ⟨ρ, I, σT, h, hr, sr, n'.bind.imp fun k h1 ρ1 I1 H1 x1 r1 n1 => ?_⟩
    by_cases z : (k == (op == BoolOp.Or)) = true
    · simp only [if_pos z] at n1 ⊢; exact n1 ρ1 I1 H1 .refl r1
    · simp only [if_neg z] at n1 ⊢; exact ⟨ρ1, I1, σT, h1, r1, sr.ext hr x1, n1⟩
  cases op with
  | And =>
    refine PW.imp (pw_and hc hs) fun σ H Q q => ?_
    obtain ⟨ρ, I, σT, h, hr, sr, n⟩ := core σ H Q q
    refine ⟨ρ, I, σT, h, hr, sr, n.imp fun k h' ρ' I' H' x' r' n' => ?_⟩
    cases k with
    | true => exact n'
    | false => exact n'
  | Or =>
    refine PW.imp (pw_or hc hs) fun σ H Q q => ?_
    obtain ⟨ρ, I, σT, h, hr, sr, n⟩ := core σ H Q q
    refine ⟨ρ, I, σT, h, hr, sr, n.imp fun k h' ρ' I' H' x' r' n' => ?_⟩
    cases k with
    | true => exact n'
    | false => exact n'
end
end VY
namespace VY
open PySem PySem.Spec
open PyProof.Rows hiding St
open L2
theorem lift_inv {K : PySem.W.Frag} {mg : Mg} {W : WX} {σ : St} {ρ : List Addr} {I : Addr → Prop} {h h1 : Hs} {H : Hp} {α : Type} {o : Option α} {k : α → Hs → List Addr → (Addr → Prop) → Hp → Prop} (n : Nx K mg W σ ρ I h H (lift o h1) k) :
    ∃ a, o = some a ∧ ∀ ρ' I' H', Ext ρ I h H ρ' I' h1 H' → HR K mg ρ' I' h1 H' → k a h1 ρ' I' H' := by
  cases o with
  | some a => exact ⟨a, rfl, n⟩
  | none => exact n.elim
/-- how a walk goes while C holds of the state -/
structure Wk (K : PySem.W.Frag) (mg : Mg) (ts : List T) (C : List Addr → (Addr → Prop) → Hs → Hp → Prop) (J : L2.It) : Prop where
  go : ∀ i ρ I h H, i < ts.length → C ρ I h H → J.go i H
  yld : ∀ i x ρ I h H H'', HR K mg ρ I h H → C ρ I h H → i < ts.length → J.yld i H x H'' → ∃ I2 t, Ext ρ I h H ρ I2 h H'' ∧ HR K mg ρ I2 h H'' ∧ ts[i]? = some t ∧ Rep K mg ρ I2 H'' x t
  stop : ∀ ρ I h H, C ρ I h H → J.stop ts.length H
def Stay (K : PySem.W.Frag) (mg : Mg) (own : Bool) (g : Option (Nat × HOb)) (ρ : List Addr) (I : Addr → Prop) (h : Hs) (H : Hp) (C : List Addr → (Addr → Prop) → Hs → Hp → Prop) : Prop :=
  if own = true then ∀ ρ2 I2 h2 H2, Ext ρ I h H ρ2 I2 h2 H2 → HR K mg ρ2 I2 h2 H2 → gdB g h2 = true → C ρ2 I2 h2 H2 else ∀ ρ2 I2 h2 H2, Kp ρ I H ρ2 I2 H2 → HR K mg ρ2 I2 h2 H2 → gdB g h2 = true → C ρ2 I2 h2 H2
def tIt (K : PySem.W.Frag) (mg : Mg) (W : WX) (own : Bool) (f : Slots → Hs → Out Itm) : TI := fun σ H Q => ∃ ρ I σT h, HR K mg ρ I h H ∧ SR K mg ρ I h H σT σ ∧
  Nx K mg W σ ρ I h H (f σT h) fun p h' ρ' I' H' => ∀ (J : L2.It) (C : List Addr → (Addr → Prop) → Hs → Hp → Prop), Stay K mg own p.g ρ' I' h' H' C → Wk K mg p.ts C J → Q J H'
theorem PI.imp {X : Cx} {tg e : Expr} {t t' : TI} (p : PI X tg e t) (f : ∀ σ H Q, t' σ H Q → t σ H Q) : PI X tg e t' := ⟨fun pins s σ H Q I h => p.run pins s σ H Q I (f σ H Q h)⟩
theorem PI.or {X : Cx} {tg e : Expr} {t t' : TI} (p : PI X tg e t) (q : PI X tg e t') : PI X tg e fun σ H Q => t σ H Q ∨ t' σ H Q :=
  ⟨fun pins s σ H Q I h => h.elim (p.run pins s σ H Q I) (q.run pins s σ H Q I)⟩
section
variable {K : PySem.W.Frag} {mg : Mg} {ρ : List Addr} {I : Addr → Prop} {h : Hs} {H : Hp} {ts : List T} {vs : List V} {a : Addr}
theorem sql_inj {xs ys : List V} (h1 : SqL K H a xs) (h2 : H a = some (.lst ys)) (hK : ∀ o, K.lookup a = some o → H a = none) : xs = ys := by
  rcases h1 with (h1 | ⟨o, h1⟩) | ⟨o, its, n, h1, _⟩
  · rw [h2] at h1; injection h1 with h1; injection h1 with h1; exact h1.symm
  · rw [h2] at h1; injection h1 with h1; cases h1
  · rw [hK o h1] at h2; cases h2
/-- a list walked -/
theorem wk_list : Wk K mg ts (fun ρ' I' _ H' => ∃ vs, SqL K H' a vs ∧ Reps K mg ρ' I' H' vs ts) (Itl K a) where
  go := fun i ρ I h H' hi ⟨vs, c, q⟩ => ⟨vs, vs[i]'(by rw [q.length]; exact hi), c, List.getElem?_eq_getElem _⟩
  yld := fun i x ρ I h H' H'' hr ⟨vs, c, q⟩ hi y => by
    obtain ⟨e, y⟩ := y
    obtain ⟨t, e1, r⟩ := q.getV (y vs c)
    subst e
    exact ⟨I, t, .refl, hr, e1, r⟩
  stop := fun ρ I h H' ⟨vs, c, q⟩ => ⟨vs, c, by rw [q.length]; exact Nat.le_refl _⟩
theorem wk_tup : Wk K mg ts (fun ρ' I' _ H' => ∃ vs, SqT K H' a vs ∧ Reps K mg ρ' I' H' vs ts) (Itt K a) where
  go := fun i ρ I h H' hi ⟨vs, c, q⟩ => ⟨vs, vs[i]'(by rw [q.length]; exact hi), c, List.getElem?_eq_getElem _⟩
  yld := fun i x ρ I h H' H'' hr ⟨vs, c, q⟩ hi y => by
    obtain ⟨e, y⟩ := y
    obtain ⟨t, e1, r⟩ := q.getV (y vs c)
    subst e
    exact ⟨I, t, .refl, hr, e1, r⟩
  stop := fun ρ I h H' ⟨vs, c, q⟩ => ⟨vs, c, by rw [q.length]; exact Nat.le_refl _⟩
theorem wk_rng {lo : Int} {n : Nat} : Wk K mg ((List.range n).map fun (k : Nat) => T.int (lo + (k : Int))) (fun _ _ _ _ => True) (Itr lo n) where
  go := fun i ρ I h H' hi _ => by show i < n; simpa using hi
  yld := fun i x ρ I h H' H'' hr _ hi y => by
    obtain ⟨e, rfl⟩ := y
    have hi' : i < n := by simpa using hi
    subst e
    exact ⟨I, .int (lo + i), .refl, hr, by simp [hi'], rfl⟩
  stop := fun ρ I h H' _ => by show n ≤ _; simp
theorem stay_true (own : Bool) (g : Option (Nat × HOb)) : Stay K mg own g ρ I h H fun _ _ _ _ => True := by
  unfold Stay; split
  · exact fun _ _ _ _ _ _ _ => trivial
  · exact fun _ _ _ _ _ _ _ => trivial
/-- what I holds stays -/
theorem stay_I {own : Bool} {g : Option (Nat × HOb)} {C : List Addr → (Addr → Prop) → Hs → Hp → Prop} (r : HR K mg ρ I h H) (c : ∀ ρ2 I2 h2 H2, Kp ρ I H ρ2 I2 H2 → HR K mg ρ2 I2 h2 H2 → gdB g h2 = true → C ρ2 I2 h2 H2) : Stay K mg own g ρ I h H C := by
  unfold Stay; split
  · exact fun ρ2 I2 h2 H2 x => c ρ2 I2 h2 H2 (x.kp r)
  · exact c
theorem stay_L {own : Bool} {g : Option (Nat × HOb)} (r : HR K mg ρ I h H) (s : (I a ∧ Rd H a (.lst vs)) ∨ StL K a vs) (w : Reps K mg ρ I H vs ts) : Stay K mg own g ρ I h H fun ρ' I' _ H' => ∃ vs, SqL K H' a vs ∧ Reps K mg ρ' I' H' vs ts :=
  stay_I r fun ρ2 I2 h2 H2 k _ _ => ⟨vs, s.elim (fun u => .inl (Rd.keep (k.keep a u.1) u.2)) .inr, w.mono k⟩
theorem stay_T {own : Bool} {g : Option (Nat × HOb)} (r : HR K mg ρ I h H) (s : (I a ∧ Rd H a (.tup vs)) ∨ StT K a vs) (w : Reps K mg ρ I H vs ts) : Stay K mg own g ρ I h H fun ρ' I' _ H' => ∃ vs, SqT K H' a vs ∧ Reps K mg ρ' I' H' vs ts :=
  stay_I r fun ρ2 I2 h2 H2 k _ _ => ⟨vs, s.elim (fun u => .inl (Rd.keep (k.keep a u.1) u.2)) .inr, w.mono k⟩
/-- an object of the heap, looked at in each turn -/
theorem stay_G {own : Bool} {n : Nat} {l : List T} (r : HR K mg ρ I h H) (e : ρ[n]? = some a) : Stay K mg own (some (n, .lst l)) ρ I h H fun ρ' I' _ H' => ∃ vs, SqL K H' a vs ∧ Reps K mg ρ' I' H' vs l :=
  stay_I r fun ρ2 I2 h2 H2 k r2 g => by
    unfold gdB at g
    simp only [] at g
    split at g
    · rename_i o eo
      have := HOb.beq_eq g
      subst this
      obtain ⟨vs, p, w⟩ := r2.obj n _ a eo (k.pre _ _ e)
      exact ⟨vs, SqL.of p, w⟩
    · cases g
end
section
variable {X : Cx} {N : Nms} {Γ : Ctx} {k : Nat} {W : WX} {a b c : E} {pa pb pc tg : Expr} {pos : Pos} {es : List E} {ps : List Expr} {own : Bool}
/-- a list that nobody changes meanwhile -/
theorem stay_O {K : PySem.W.Frag} {mg : Mg} {ρ : List Addr} {I : Addr → Prop} {h : Hs} {H : Hp} {a : Addr} {vs : List V} {l : List T} (r : HR K mg ρ I h H) (p : H a = some (.lst vs)) (nl : ¬ Live ρ h a) (w : Reps K mg ρ I H vs l) :
    Stay K mg true none ρ I h H fun ρ' I' _ H' => ∃ vs, SqL K H' a vs ∧ Reps K mg ρ' I' H' vs l := by
  unfold Stay
  rw [if_pos rfl]
  exact fun ρ2 I2 h2 H2 x _ _ => ⟨vs, SqL.of ((x.keep a (isSome_of p) nl).trans p), w.mono (x.kp r)⟩
theorem s_ite (ha : PE X pa (tD X.K X.M W (evE Γ a))) : PI X tg pa (tIt X.K X.M W own (evIt Γ own (.e a))) := by
  refine PI.imp (PI.or (pi_list ha) (pi_tup ha)) ?_
  rintro σ H Q ⟨ρ, I, σT, h, hr, sr, n⟩
  have n' : Nx X.K X.M W σ ρ I h H ((evE Γ a σT h).bind fun r h1 => lift (walkL own σT h1 r) h1) _ := n
  cases e : evE Γ a σT h with
  | bad => rw [e] at n'; exact n'.elim
  | ex y h1 => rw [e] at n'; exact .inl ⟨ρ, I, σT, h, hr, sr, by rw [e]; exact n'⟩
  | ok r h1 =>
    rw [e, Out.bind_ok] at n'
    obtain ⟨p, ep, g⟩ := lift_inv n'
    cases r with
    | al l =>
      cases ep
      refine .inl ⟨ρ, I, σT, h, hr, sr, ?_⟩
      rw [e]
      intro ρ1 I1 H1 x1 r1 v o
      cases own with
      | true =>
        obtain ⟨a, vs, rfl, z, q, ni, nl, w⟩ := o
        exact ⟨a, rfl, ⟨vs, SqL.of q⟩, g ρ1 I1 H1 x1 r1 _ _ (stay_O r1 q nl w) wk_list⟩
      | false =>
        obtain ⟨I2, x2, r2, q⟩ := o.keep x1 r1 (show frz (.al l) = some (.lst l) from rfl)
        obtain ⟨a, vs, rfl, i, q, w⟩ := q
        exact ⟨a, rfl, ⟨vs, SqL.of q⟩, g ρ1 I2 H1 x2 r2 _ _ (stay_L r2 (.inl ⟨i, .of q⟩) w) wk_list⟩
    | bw j =>
      cases own with
      | false => cases ep
      | true =>
        have ep' : (match σT[j]? with | some (some (.al l)) => some (⟨l, none⟩ : Itm) | _ => none) = some p := ep
        split at ep'
        · rename_i l y
          cases ep'
          refine .inl ⟨ρ, I, σT, h, hr, sr, ?_⟩
          rw [e]
          intro ρ1 I1 H1 x1 r1 v o
          obtain ⟨a, vs, q', z, ni, nl, w⟩ := (sr.ext hr x1).als j l y
          obtain ⟨q, _⟩ := o
          rw [q] at q'
          cases q'
          exact ⟨a, rfl, ⟨vs, SqL.of z⟩, g ρ1 I1 H1 x1 r1 _ _ (stay_O r1 z nl w) wk_list⟩
        · cases ep'
    | v t =>
      have ep' : walkT h1 t = some p := by cases own <;> exact ep
      cases t with
      | ref n =>
        unfold walkT at ep'
        simp only [] at ep'
        split at ep'
        · rename_i l el
          cases ep'
          refine .inl ⟨ρ, I, σT, h, hr, sr, ?_⟩
          rw [e]
          intro ρ1 I1 H1 x1 r1 v o
          obtain ⟨a, rfl, ea⟩ := (show ∃ a, v = .ref a ∧ ρ1[n]? = some a from o)
          obtain ⟨vs, z, w⟩ := r1.obj n _ a el ea
          exact ⟨a, rfl, ⟨vs, SqL.of z⟩, g ρ1 I1 H1 x1 r1 _ _ (stay_G r1 ea) wk_list⟩
        · cases ep'
      | lst l =>
        cases ep'
        refine .inl ⟨ρ, I, σT, h, hr, sr, ?_⟩
        rw [e]
        intro ρ1 I1 H1 x1 r1 v o
        obtain ⟨a, vs, rfl, i, q, w⟩ := o
        exact ⟨a, rfl, ⟨vs, SqL.of q⟩, g ρ1 I1 H1 x1 r1 _ _ (stay_L r1 (.inl ⟨i, .of q⟩) w) wk_list⟩
      | slst l =>
        cases ep'
        refine .inl ⟨ρ, I, σT, h, hr, sr, ?_⟩
        rw [e]
        intro ρ1 I1 H1 x1 r1 v o
        obtain ⟨a, vs, rfl, s, w⟩ := o
        exact ⟨a, rfl, ⟨vs, seq_of s⟩, g ρ1 I1 H1 x1 r1 _ _ (stay_L r1 s w) wk_list⟩
      | tup l =>
        cases ep'
        refine .inr ⟨ρ, I, σT, h, hr, sr, ?_⟩
        rw [e]
        intro ρ1 I1 H1 x1 r1 v o
        obtain ⟨a, vs, rfl, s, w⟩ := o
        exact ⟨a, rfl, ⟨vs, seqT_of s⟩, g ρ1 I1 H1 x1 r1 _ _ (stay_T r1 s w) wk_tup⟩
      | _ => cases ep'
theorem rng_inv {lo hi : Int} {ts : List T} (e : rngT lo hi = some ts) : (-(2 ^ 62) ≤ lo ∧ lo < 2 ^ 62 ∧ -(2 ^ 62) ≤ hi ∧ hi < 2 ^ 62) ∧ ts = (List.range (hi - lo).toNat).map fun (k : Nat) => T.int (lo + (k : Int)) := by
  unfold rngT at e
  obtain ⟨c, e⟩ := ite_some e
  exact ⟨c, e.symm⟩
theorem s_itr1 (G : Gd X N Γ k W) {p : Pos} (hg : glbB X.env.scope "range" = true) (ha : PE X pa (tD X.K X.M W (evE Γ a))) (m : notStar pa = true) : PI X tg (.Call (.Name "range" p) [pa] [] pos) (tIt X.K X.M W own (evIt Γ own (.r1 a))) := by
  refine PI.imp (pi_range1 (glb_of hg).1 (G.fr _ (by decide +kernel)) (pa_cons ha pa_nil (star_eq m)) (star_eq m)) ?_
  rintro σ H Q ⟨ρ, I, σT, h, hr, sr, n⟩
  have n' : Nx X.K X.M W σ ρ I h H ((evE Γ a σT h).bind fun r h1 => match r with | .v (.int j) => lift ((rngT 0 j).map fun l => (⟨l, none⟩ : Itm)) h1 | _ => .bad) _ := n
  refine ⟨ρ, I, σT, h, hr, sr, n'.bind.imp fun r h1 ρ1 I1 H1 x1 r1 n1 v o => ?_⟩
  split at n1
  · rename_i j
    obtain ⟨p, ep, g⟩ := n1.lift
    obtain ⟨ts, et, rfl⟩ := Option.map_eq_some_iff.mp ep
    obtain ⟨⟨_, _, c1, c2⟩, rfl⟩ := rng_inv et
    cases (show v = .int j from o)
    refine ⟨j, rfl, c1, c2, ?_⟩
    have e : j.toNat = (j - 0).toNat := by omega
    rw [e]
    exact g ρ1 I1 H1 .refl r1 _ _ (stay_true own _) wk_rng
  · exact n1.elim
theorem s_itr2 (G : Gd X N Γ k W) {p : Pos} (hg : glbB X.env.scope "range" = true) (ha : PE X pa (tD X.K X.M W (evE Γ a))) (hb : PE X pb (tD X.K X.M W (evE Γ b))) (m : notStar pa = true) (m' : notStar pb = true) :
    PI X tg (.Call (.Name "range" p) [pa, pb] [] pos) (tIt X.K X.M W own (evIt Γ own (.r2 a b))) := by
  refine PI.imp (pi_range2 (glb_of hg).1 (G.fr _ (by decide +kernel)) (pa_cons ha (pa_cons hb pa_nil (star_eq m')) (star_eq m)) (by rw [star_eq m, star_eq m']; rfl) (star_eq m')) ?_
  rintro σ H Q ⟨ρ, I, σT, h, hr, sr, n⟩
  have n' : Nx X.K X.M W σ ρ I h H ((evE Γ a σT h).bind fun r h1 => (evE Γ b σT h1).bind fun s h2 => match r, s with | .v (.int i), .v (.int j) => lift ((rngT i j).map fun l => (⟨l, none⟩ : Itm)) h2 | _, _ => .bad) _ := n
  refine ⟨ρ, I, σT, h, hr, sr, n'.bind.imp fun r h1 ρ1 I1 H1 x1 r1 n1 v o => ?_⟩
  refine ⟨ρ1, I1, σT, h1, r1, sr.ext hr x1, n1.bind.imp fun s h2 ρ2 I2 H2 x2 r2 n2 u o2 => ?_⟩
  split at n2
  · rename_i i j
    obtain ⟨p, ep, g⟩ := n2.lift
    obtain ⟨ts, et, rfl⟩ := Option.map_eq_some_iff.mp ep
    obtain ⟨⟨c1, c2, c3, c4⟩, rfl⟩ := rng_inv et
    cases (show v = .int i from o)
    cases (show u = .int j from o2)
    exact ⟨i, j, rfl, ⟨c1, c2, c3, c4⟩, g ρ2 I2 H2 .refl r2 _ _ (stay_true own _) wk_rng⟩
  · exact n2.elim
end
end VY
namespace VY
open PySem PySem.Spec
open PyProof.Rows hiding St
open L2
section
variable {K : PySem.W.Frag} {mg : Mg} {ρ ρ' : List Addr} {I I' : Addr → Prop} {h h' : Hs} {H H' : Hp} {σT : Slots} {σ : St} {W W' : WX}
theorem SR.set (s : SR K mg ρ I h H σT σ) {v : V} {t : T} (q : Rep K mg ρ I H v t) (i : Nat) : SR K mg ρ I h H (σT.set i (some (.v t))) (σ.set i (some v)) where
  len := by rw [List.length_set, List.length_set]; exact s.len
  vs := fun j u e => by
    by_cases c : i = j
    · subst c
      by_cases hi : i < σT.length
      · rw [List.getElem?_set_self hi] at e
        cases e
        exact ⟨v, List.getElem?_set_self (by rw [← s.len]; exact hi), q⟩
      · rw [List.getElem?_eq_none (by rw [List.length_set]; omega)] at e; cases e
    · rw [List.getElem?_set_ne c] at e ⊢
      exact s.vs j u e
  als := fun j l e => by
    by_cases c : i = j
    · subst c
      by_cases hi : i < σT.length
      · rw [List.getElem?_set_self hi] at e; cases e
      · rw [List.getElem?_eq_none (by rw [List.length_set]; omega)] at e; cases e
    · rw [List.getElem?_set_ne c] at e
      obtain ⟨a, vs, q, r⟩ := s.als j l e
      exact ⟨a, vs, by rw [List.getElem?_set_ne c]; exact q, r⟩
  adj := fun j j' l m a e1 e2 e3 e4 => by
    have ne : ∀ {j : Nat} {l : List T}, (σT.set i (some (.v t)))[j]? = some (some (.al l)) → i ≠ j := fun {j l} e c => by
      subst c
      by_cases hi : i < σT.length
      · rw [List.getElem?_set_self hi] at e; cases e
      · rw [List.getElem?_eq_none (by rw [List.length_set]; omega)] at e; cases e
    have n1 := ne e1
    have n2 := ne e2
    rw [List.getElem?_set_ne n1] at e1 e3
    rw [List.getElem?_set_ne n2] at e2 e4
    exact s.adj j j' l m a e1 e2 e3 e4
theorem SR.clr (s : SR K mg ρ I h H σT σ) (i : Nat) (o : Option V) : SR K mg ρ I h H (σT.set i none) (σ.set i o) where
  len := by rw [List.length_set, List.length_set]; exact s.len
  vs := fun j u e => by
    by_cases c : i = j
    · subst c
      by_cases hi : i < σT.length
      · rw [List.getElem?_set_self hi] at e; cases e
      · rw [List.getElem?_eq_none (by rw [List.length_set]; omega)] at e; cases e
    · rw [List.getElem?_set_ne c] at e ⊢
      exact s.vs j u e
  als := fun j l e => by
    by_cases c : i = j
    · subst c
      by_cases hi : i < σT.length
      · rw [List.getElem?_set_self hi] at e; cases e
      · rw [List.getElem?_eq_none (by rw [List.length_set]; omega)] at e; cases e
    · rw [List.getElem?_set_ne c] at e
      obtain ⟨a, vs, q, r⟩ := s.als j l e
      exact ⟨a, vs, by rw [List.getElem?_set_ne c]; exact q, r⟩
  adj := fun j j' l m a e1 e2 e3 e4 => by
    have ne : ∀ {j : Nat} {l : List T}, (σT.set i none)[j]? = some (some (.al l)) → i ≠ j := fun {j l} e c => by
      subst c
      by_cases hi : i < σT.length
      · rw [List.getElem?_set_self hi] at e; cases e
      · rw [List.getElem?_eq_none (by rw [List.length_set]; omega)] at e; cases e
    have n1 := ne e1
    have n2 := ne e2
    rw [List.getElem?_set_ne n1] at e1 e3
    rw [List.getElem?_set_ne n2] at e2 e4
    exact s.adj j j' l m a e1 e2 e3 e4
theorem SR.wipe (s : SR K mg ρ I h H σT σ) : ∀ vs : List Nat, SR K mg ρ I h H (wipeT σT vs) (L2.wipe σ vs)
  | [] => s
  | v :: vs => (SR.wipe s vs).clr v none
theorem wipe_set (σ : St) (x : Option V) : ∀ {vs : List Nat} {i : Nat}, i ∈ vs → L2.wipe (σ.set i x) vs = L2.wipe σ vs
  | v :: vs, i, hm => by
    show (L2.wipe (σ.set i x) vs).set v none = (L2.wipe σ vs).set v none
    by_cases c : i ∈ vs
    · rw [wipe_set σ x c]
    · have e : i = v := by simpa [c] using hm
      subst e
      have out : ∀ {ws : List Nat}, i ∉ ws → L2.wipe (σ.set i x) ws = (L2.wipe σ ws).set i x := by
        intro ws
        induction ws with
        | nil => intro _; rfl
        | cons w ws ih =>
          intro hn
          have h1 : i ≠ w := fun e => hn (by simp [e])
          show (L2.wipe (σ.set i x) ws).set w none = ((L2.wipe σ ws).set w none).set i x
          rw [ih (fun z => hn (by simp [z])), List.set_comm _ _ h1]
      rw [out c, List.set_set]
/-- a thing that goes to a target: what is taken apart is looked at -/
def PkG (K : PySem.W.Frag) (mg : Mg) (ρ : List Addr) (I : Addr → Prop) (H : Hp) (v : V) (t : T) : Tg → Prop
  | .nm _ => Rep K mg ρ I H v t
  | .tp _ => Pk K mg ρ I H v t
theorem PkG.of {K : PySem.W.Frag} {mg : Mg} {ρ : List Addr} {I : Addr → Prop} {H : Hp} {v : V} {t : T} (q : Rep K mg ρ I H v t) : ∀ g, PkG K mg ρ I H v t g
  | .nm _ => q
  | .tp _ => Pk.of q
theorem PkG.see {v : V} {t : T} (hr : HR K mg ρ I h H) (q : Rep K mg ρ I H v t) : ∀ g, PkG K mg ρ I H v (tgSee g h t) g
  | .nm _ => q
  | .tp _ => Pk.seen hr q
theorem PG.or {X : Cx} {e : Expr} {t t' : TG} (p : PG X e t) (q : PG X e t') : PG X e fun v σ H Q => t v σ H Q ∨ t' v σ H Q := ⟨fun pins s σ H v u Q I r h => h.elim (p.run pins s σ H v u Q I r) (q.run pins s σ H v u Q I r)⟩
def tTg (K : PySem.W.Frag) (mg : Mg) (vs : List Nat) (g : Tg) : TG := fun v σ H Q => ∃ ρ I σT h t σ2, HR K mg ρ I h H ∧ SR K mg ρ I h H σT σ ∧ PkG K mg ρ I H v t g ∧ asgT g t σT = some σ2 ∧
  ∀ σ', SR K mg ρ I h H σ2 σ' → L2.wipe σ' vs = L2.wipe σ vs → Q σ' H
def tTgs (K : PySem.W.Frag) (mg : Mg) (vs : List Nat) (f : List T → Slots → Option Slots) : TGs := fun ws σ H Q => ∃ ρ I σT h ts σ2, HR K mg ρ I h H ∧ SR K mg ρ I h H σT σ ∧ Reps K mg ρ I H ws ts ∧ f ts σT = some σ2 ∧
  ∀ σ', SR K mg ρ I h H σ2 σ' → L2.wipe σ' vs = L2.wipe σ vs → Q σ' H
theorem PG.imp {X : Cx} {e : Expr} {t t' : TG} (p : PG X e t) (f : ∀ v σ H Q, t' v σ H Q → t v σ H Q) : PG X e t' := ⟨fun pins s σ H v u Q I r h => p.run pins s σ H v u Q I r (f v σ H Q h)⟩
theorem PGs.imp {X : Cx} {e : List Expr} {t t' : TGs} (p : PGs X e t) (f : ∀ v σ H Q, t' v σ H Q → t v σ H Q) : PGs X e t' := ⟨fun pins s σ H v u Q I r h => p.run pins s σ H v u Q I r (f v σ H Q h)⟩
theorem each_len {env : Env} : ∀ es : List Expr, (assignEach es env).length = es.length
  | [] => rfl
  | e :: es => by cases e <;> exact congrArg (· + 1) (each_len es)
theorem each_eq {e : Expr} {es : List Expr} {env : Env} (h : notStar e = true) : assignEach (e :: es) env = (false, assign e env) :: assignEach es env := by cases e <;> first | rfl | cases h
end
mutual
/-- a target's reading: fn: the names whose cells are the block's own, or all -/
theorem s_tg {X : Cx} {sc : Scope} (hc : X.calm = true) (hN : X.N.Nodup) (hs : ∀ x, locB sc x = true → Loc X.env.scope x ∧ (X.fn x = true ∨ X.env.scope.names.lookup x = some .local)) (vs : List Nat) : ∀ (g : Tg) (e : Expr), mTg sc X.N g e = true → (∀ i ∈ g.ixs, i ∈ vs) → PG X e (tTg X.K X.M vs g)
  | .nm i, .Name x pos, m, hv => by
    have q := and_tt m
    have hi : X.N[i]? = some x := of_decide_eq_true q.1
    have hl := hs x q.2
    refine PG.imp (pg_name hN hi hl.1 hl.2) ?_
    rintro v σ H Q ⟨ρ, I, σT, h, t, σ2, hr, sr, p, e, k⟩
    cases e
    exact k _ (sr.set p i) (wipe_set σ _ (hv i (by simp [Tg.ixs])))
  | .tp l, .Tuple es j pos, m, hv => by
    have pgs := s_tgs hc hN hs vs l es m (fun i hi => hv i hi)
    have st : (assignEach es X.env).findIdx? (·.1) = none := by
      have : ∀ (l : List Tg) (es : List Expr), mTgs sc X.N l es = true → (assignEach es X.env).findIdx? (·.1) = none := by
        intro l
        induction l with
        | nil => intro es m; cases es with
          | nil => rfl
          | cons e es => cases m
        | cons g l ih => intro es m; cases es with
          | nil => cases m
          | cons e es =>
            have q := and_tt m
            rw [each_eq (and_tt q.1).1, List.findIdx?_cons]
            rw [ih es q.2]
            rfl
      exact this l es m
    refine PG.imp (PG.or (pg_tup hc pgs (each_len es) st) (pg_lst hc pgs (each_len es) st)) ?_
    rintro v σ H Q ⟨ρ, I, σT, h, t, σ2, hr, sr, p, e, k⟩
    have len : ∀ {ts : List T} {ws : List V}, Reps X.K X.M ρ I H ws ts → asgTs l ts σT = some σ2 → ws.length = es.length := by
      intro ts ws w e
      have : ∀ (l : List Tg) (ts : List T) (σ σ2 : Slots), asgTs l ts σ = some σ2 → l.length = ts.length := by
        intro l
        induction l with
        | nil => intro ts σ σ2 e; cases ts with
          | nil => rfl
          | cons t ts => cases e
        | cons g l ih => intro ts σ σ2 e; cases ts with
          | nil => cases e
          | cons t ts =>
            rw [asgTs] at e
            cases z : asgT g t σ with
            | none => rw [z] at e; cases e
            | some σ1 => rw [z] at e; exact congrArg (· + 1) (ih ts σ1 σ2 e)
      have e1 := this l ts σT σ2 e
      have e2 : ∀ (l : List Tg) (es : List Expr), mTgs sc X.N l es = true → l.length = es.length := by
        intro l
        induction l with
        | nil => intro es m; cases es with
          | nil => rfl
          | cons e es => cases m
        | cons g l ih => intro es m; cases es with
          | nil => cases m
          | cons e es => exact congrArg (· + 1) (ih es (and_tt m).2)
      rw [w.length, ← e1, e2 l es m]
    cases t with
    | tup ts =>
      obtain ⟨a, ws, rfl, s, w⟩ := p
      exact .inl ⟨a, ws, rfl, seqT_of s, len w e, ρ, I, σT, h, ts, σ2, hr, sr, w, e, k⟩
    | lst ts =>
      obtain ⟨a, ws, rfl, s, w⟩ := p
      exact .inr ⟨a, ws, rfl, SqL.of s, len w e, ρ, I, σT, h, ts, σ2, hr, sr, w, e, k⟩
    | _ => cases e
theorem s_tgs {X : Cx} {sc : Scope} (hc : X.calm = true) (hN : X.N.Nodup) (hs : ∀ x, locB sc x = true → Loc X.env.scope x ∧ (X.fn x = true ∨ X.env.scope.names.lookup x = some .local)) (vs : List Nat) : ∀ (l : List Tg) (es : List Expr), mTgs sc X.N l es = true → (∀ i ∈ ixss l, i ∈ vs) → PGs X es (tTgs X.K X.M vs (asgTs l))
  | [], [], _, _ => PGs.imp pgs_nil fun ws σ H Q ⟨ρ, I, σT, h, ts, σ2, hr, sr, p, e, k⟩ => by
    cases ts with
    | nil =>
      cases ws with
      | nil => cases e; exact ⟨rfl, k σ sr rfl⟩
      | cons w ws => exact p.elim
    | cons t ts => cases e
  | g :: l, e :: es, m, hv => by
    have q := and_tt m
    have p1 := s_tg hc hN hs vs g e (and_tt q.1).2 (fun i hi => hv i (List.mem_append_left _ hi))
    have p2 := s_tgs hc hN hs vs l es q.2 (fun i hi => hv i (List.mem_append_right _ hi))
    refine PGs.imp (pgs_cons p1 p2 (by rw [each_eq (and_tt q.1).1]; rfl)) ?_
    rintro ws σ H Q ⟨ρ, I, σT, h, ts, σ2, hr, sr, p, e, k⟩
    cases ts with
    | nil => cases e
    | cons t ts =>
      cases ws with
      | nil => exact p.elim
      | cons w ws =>
        rw [asgTs] at e
        cases z : asgT g t σT with
        | none => rw [z] at e; cases e
        | some σ1 =>
          rw [z] at e
          refine ⟨w, ws, rfl, ρ, I, σT, h, t, σ1, hr, sr, .of p.1 g, z, fun σ' sr' ew => ?_⟩
          exact ⟨ρ, I, σ1, h, ts, σ2, hr, sr', p.2, e, fun σ'' sr'' ew' => k σ'' sr'' (ew'.trans ew)⟩
end
end VY
namespace VY
open PySem PySem.Spec
open PyProof.Rows hiding St
open L2
section
variable {K : PySem.W.Frag} {mg : Mg} {ρ ρ' : List Addr} {I I' : Addr → Prop} {h h' : Hs} {H H' H0 : Hp} {σT : Slots} {σ : St} {W W' : WX} {α β : Type}
theorem Nx.noex {o : Out α} {k : α → Hs → List Addr → (Addr → Prop) → Hp → Prop} (n : Nx K mg W σ ρ I h H (noex o) k) {σ' : St} : Nx K mg W' σ' ρ I h H o k := by
  cases o with
  | ok a h1 => exact n
  | ex x h1 => exact n.elim
  | bad => exact n.elim
/-- a thing that nobody else holds is changed -/
theorem ext_at {a : Addr} (o : HO) (x : Ext ρ I h H ρ' I' h' H') (e : H a = none) : Ext ρ I h H ρ' I' h' (upd H' a o) where
  pre := x.pre
  sub := x.sub
  keep := fun b d l => (upd_ne (fun z => by subst z; exact not_none d e)).trans (x.keep b d l)
  dom := fun b d => upd_dom (x.dom b d)
  inew := x.inew
  lnew := x.lnew
theorem kp_at {a : Addr} (o : HO) (ni : ¬ I a) : Kp ρ I H ρ I (upd H a o) := ⟨fun _ _ e => e, fun _ e => e, fun b i => upd_ne fun z => ni (z ▸ i)⟩
theorem hr_at {a : Addr} (o : HO) (r : HR K mg ρ I h H) (ni : ¬ I a) (nl : ¬ Live ρ h a) : HR K mg ρ I h (upd H a o) where
  len := r.len
  inj := r.inj
  dis := r.dis
  idom := fun b i => upd_dom (r.idom b i)
  obj := fun n u b e1 e2 => (r.obj n u b e1 e2).mono (kp_at o ni) fun nd => upd_ne fun z => nl (z ▸ ⟨n, u, e2, e1, nd⟩)
theorem none_back (x : Ext ρ I h H ρ' I' h' H') {a : Addr} (e : H' a = none) : H a = none := by
  cases z : H a with
  | none => rfl
  | some _ => exact (not_none (x.dom a (isSome_of z)) e).elim
mutual
theorem own_ixs (nm : List Str) : ∀ g : Tg, (ownOf nm g).map (·.2) = g.ixs
  | .nm i => rfl
  | .tp l => own_ixss nm l
theorem own_ixss (nm : List Str) : ∀ l : List Tg, (ownOfs nm l).map (·.2) = ixss l
  | [] => rfl
  | g :: l => by rw [ownOfs, List.map_append, own_ixs nm g, own_ixss nm l]; rfl
end
end
section
variable {X : Cx} {N : Nms} {Γ : Ctx} {k : Nat} {W : WX}
theorem drop_at {α : Type} {l : List α} {i : Nat} {x : α} (e : l[i]? = some x) : l.drop i = x :: l.drop (i + 1) := by
  obtain ⟨hi, e'⟩ := List.getElem?_eq_some_iff.mp e
  rw [List.drop_eq_getElem_cons hi, e']
/-- a walk's step: the object walked is as it was -/
theorem gd_lc {K : PySem.W.Frag} {mg : Mg} {σ : St} {ρ : List Addr} {I : Addr → Prop} {h hc : Hs} {H : Hp} {α β : Type} {g : Option (Nat × HOb)} {o : Out α} {f : α → Hs → Out β} {k : β → Hs → List Addr → (Addr → Prop) → Hp → Prop}
    (n : Nx K mg W σ ρ I h H ((if gdB g hc then o else .bad).bind f) k) : gdB g hc = true ∧ Nx K mg W σ ρ I h H (o.bind f) k := by
  cases z : gdB g hc with
  | true => rw [z] at n; exact ⟨rfl, n⟩
  | false => rw [z] at n; exact n.elim
/-- the loop of a comprehension -/
theorem lc_loop {g : TG} {tt : TT} {te : TE} {vs : List Nat} {F : T → Hs → Out (Option T)} {f : Slots → Hs → Out Itm} {σ : St} {H : Hp} {Q : VK} {ρ : List Addr} {I : Addr → Prop} {h : Hs} {σT : Slots} {K : PySem.W.Frag} {mg : Mg}
    (hr : HR K mg ρ I h H) (sr : SR K mg ρ I h H σT σ) (n : Nx K mg W σ ρ I h H ((f σT h).bind fun p h1 => (lcL F p.g p.ts [] h1).bind fun l h2 => .ok (.al l) h2) fun r h' ρ' I' H' => ∀ v, RO K mg ρ' I' h' H' H σT σ v r → Q v H')
    (turn : ∀ ρc Ic hc Hc t x (P : VK) (P' : Hp → Prop), HR K mg ρc Ic hc Hc → SR K mg ρc Ic hc Hc σT σ → Rep K mg ρc Ic Hc x t → (∀ {W' : WX} {σ' : St}, Nx K mg W' σ' ρc Ic hc Hc (F t hc) fun o h4 ρ4 I4 H4 => match o with
      | some t' => ∀ y, Rep K mg ρ4 I4 H4 y t' → P y H4
      | none => P' H4) → g x (L2.wipe σ vs) Hc fun σ2 H2 => L2.wipe σ2 vs = L2.wipe σ vs ∧ tt σ2 H2 fun b H3 => if b = true then te σ2 H3 P else P' H3)
    (hF : ∀ t h, noex (F t h) = F t h) : tLc (tIt K mg W true f) g tt te vs σ H Q := by
  refine ⟨ρ, I, σT, h, hr, sr, n.bind.imp fun p h1 ρ1 I1 H1 x1 r1 n1 J C st wk D hD => ?_⟩
  obtain ⟨ts, gd⟩ := p
  have s1 := sr.ext hr x1
  have hD0 : H D = none := none_back x1 hD
  -- the state in a turn
  refine ⟨fun i m Hc => m = ts.length - i ∧ i ≤ ts.length ∧ ∃ ρc Ic hc acc, Ext ρ1 I1 h1 H1 ρc Ic hc Hc ∧ HR K mg ρc Ic hc Hc ∧ RO K mg ρc Ic hc Hc H1 σT σ (.ref D) (.al acc) ∧
    Nx K mg W σ ρ1 I1 h1 H1 ((lcL F gd (ts.drop i) acc hc).bind fun l h2 => .ok (.al l) h2) fun r h' ρ' I' H' => ∀ v, RO K mg ρ' I' h' H' H σT σ v r → Q v H', ⟨ts.length, ?_⟩, ?_⟩
  · refine ⟨by omega, Nat.zero_le _, ρ1, I1, h1, [], ext_new _ hD, hr_new _ r1 hD, ⟨D, [], rfl, hD, upd_same, fun z => not_none (r1.idom D z) hD, fun z => not_none (live_some r1 z) hD, trivial⟩, ?_⟩
    exact n1
  · rintro i m Hc ⟨rfl, hi', ρc, Ic, hc, acc, xc, rc, oc, nc⟩
    have cC : gdB gd hc = true → C ρc Ic hc Hc := fun gg => by
      unfold Stay at st
      rw [if_pos rfl] at st
      exact st _ _ _ _ xc rc gg
    by_cases hlt : i < ts.length
    · rw [List.drop_eq_getElem_cons hlt] at nc
      obtain ⟨gg, nc⟩ := gd_lc nc
      refine .inr ⟨wk.go i ρc Ic hc Hc hlt (cC gg), fun H' => ∃ ρc Ic hc acc, Ext ρ1 I1 h1 H1 ρc Ic hc H' ∧ HR K mg ρc Ic hc H' ∧ RO K mg ρc Ic hc H' H1 σT σ (.ref D) (.al acc) ∧
        Nx K mg W σ ρ1 I1 h1 H1 ((lcL F gd (ts.drop (i + 1)) acc hc).bind fun l h2 => .ok (.al l) h2) fun r h' ρ' I' H' => ∀ v, RO K mg ρ' I' h' H' H σT σ v r → Q v H', fun H' ⟨ρ2, I2, h2, acc2, a1, a2, a3, a4⟩ => ⟨ts.length - (i + 1), by omega, rfl, hlt, ρ2, I2, h2, acc2, a1, a2, a3, a4⟩, ?_⟩
      intro x H' y
      obtain ⟨I2, t, xy, ry, et, rt⟩ := wk.yld i x ρc Ic hc Hc H' rc (cC gg) hlt y
      have et' : ts[i] = t := by rw [List.getElem?_eq_getElem hlt] at et; exact Option.some.inj et
      rw [et'] at nc
      have xcy := xc.trans xy
      have ocy := oc.ext rc xy
      refine turn ρc I2 hc H' t x _ _ ry (s1.ext r1 xcy) rt ?_
      intro W' σ'
      cases eF : F t hc with
      | bad => rw [eF] at nc; exact nc.elim
      | ex y h4 =>
        have z := hF t hc
        rw [eF] at z
        cases z
      | ok o h4 =>
        rw [eF] at nc
        intro ρ4 I4 H4 x4 r4
        have o4 := ocy.ext ry x4
        cases o with
        | none => exact ⟨ρ4, I4, h4, acc, xcy.trans x4, r4, o4, nc⟩
        | some t' =>
          intro y q
          have n5 : Nx K mg W σ ρ1 I1 h1 H1 ((if acc.length < SL then lcL F gd (ts.drop (i + 1)) (acc ++ [t']) h4 else .bad).bind _) _ := nc
          split at n5
          · rename_i hz
            obtain ⟨a, ws, ea, na, p, ni, nl, w⟩ := o4
            cases ea
            exact ⟨ws, p, by rw [w.length, sizeLine_eq]; exact hz, ρ4, I4, h4, acc ++ [t'], ext_at _ (xcy.trans x4) hD, hr_at _ r4 ni nl, ⟨D, ws ++ [y], rfl, hD, upd_same, ni, nl, Reps.mono (kp_at _ ni) (w.append (ws := [y]) (m := [t']) ⟨q, trivial⟩)⟩, n5⟩
          · exact n5.elim
    · have e : i = ts.length := by omega
      subst e
      rw [List.drop_length] at nc
      obtain ⟨gg, nc⟩ := gd_lc nc
      exact .inl ⟨wk.stop ρc Ic hc Hc (cC gg), nc ρc Ic Hc xc rc (.ref D) (oc.back x1.dom)⟩
theorem wipe_get (σ : St) (j : Nat) : ∀ vs : List Nat, (L2.wipe σ vs)[j]? = if j ∈ vs then (if j < σ.length then some none else none) else σ[j]?
  | [] => by simp [L2.wipe]
  | v :: vs => by
    show ((L2.wipe σ vs).set v none)[j]? = _
    rw [List.getElem?_set, wipe_get σ j vs, wipe_length]
    by_cases e : v = j
    · subst e; simp
    · have e' : ¬ j = v := fun z => e z.symm
      simp [e, e']
theorem wipe_idem (σ : St) (vs : List Nat) : L2.wipe (L2.wipe σ vs) vs = L2.wipe σ vs := by
  apply List.ext_getElem?
  intro j
  rw [wipe_get, wipe_get, wipe_length]
  split <;> rfl
theorem blk_loc (X : Cx) (s : Shared) (H : Hp) (scope : Scope) (C : Addr) (cl : List (Str × Addr)) (fp : List Addr) (x : Str) (m : locB scope x = true) :
    Loc (X.blk s H scope (compEnvC scope cl C X.env) fp).env.scope x ∧ ((X.blk s H scope (compEnvC scope cl C X.env) fp).fn x = true ∨ (X.blk s H scope (compEnvC scope cl C X.env) fp).env.scope.names.lookup x = some .local) := by
  rcases loc_of m with z | z
  · have q : (relS scope X.env.scope).names.lookup x = some .local := lookup_relS_keep (sc := X.env.scope) (by decide) z
    exact ⟨.inl q, .inr q⟩
  · have q : (relS scope X.env.scope).names.lookup x = some .cell := lookup_relS_keep (sc := X.env.scope) (by decide) z
    exact ⟨.inr q, .inl (by show (scope.names.lookup x == some .cell) = true; rw [z]; rfl)⟩
theorem noex_noex {α : Type} (o : Out α) : noex (noex o) = noex o := by cases o <;> rfl
theorem lc_imp {elt : E} {tg : Tg} {it : It} {cond : C} {K : PySem.W.Frag} {mg : Mg} {nm : List Str} {σ : St} {H : Hp} {Q : VK} (q : tD K mg W (evE Γ (.lc elt tg it cond)) σ H Q) :
    tLc (tIt K mg W true (evIt Γ true it)) (tTg K mg tg.ixs tg) (tB K mg (fun _ _ _ _ => False) (evC Γ cond)) (tD K mg (fun _ _ _ _ => False) (evE Γ elt)) ((ownOf nm tg).map (·.2)) σ H Q := by
  obtain ⟨ρ, I, σT, h, hr, sr, n⟩ := q
  rw [evE] at n
  rw [own_ixs]
  refine lc_loop hr sr n ?_ fun t h => noex_noex _
  intro ρc Ic hc Hc t x P P' rc sc rt nF
  cases z : asgT tg t (wipeT σT tg.ixs) with
  | none =>
    have n3 := nF (W' := W) (σ' := σ)
    rw [z] at n3
    exact n3.elim
  | some σ2 =>
    refine ⟨ρc, Ic, wipeT σT tg.ixs, hc, t, σ2, rc, sc.wipe tg.ixs, PkG.of rt tg, z, fun σ' sr' ew => ⟨ew.trans ?_, ?_⟩⟩
    · exact wipe_idem σ tg.ixs
    · have n3 := nF (W' := fun _ _ _ _ => False) (σ' := σ')
      rw [z] at n3
      have n4 := n3.noex (W' := fun _ _ _ _ => False) (σ' := σ')
      refine ⟨ρc, Ic, σ2, hc, rc, sr', n4.bind.imp fun b h3 ρ3 I3 H3 x3 r3 n5 => ?_⟩
      have s3 := sr'.ext rc x3
      cases b with
      | false => exact n5 ρ3 I3 H3 .refl r3
      | true =>
        rw [if_pos rfl] at n5
        refine ⟨ρ3, I3, σ2, h3, r3, s3, n5.bind.imp' fun r h4 ρ4 I4 H4 x4 r4 n6 y o4 => ?_⟩
        cases e : frz r with
        | none => have n7 := n6 ρ4 I4 H4 x4 r4; rw [e] at n7; exact n7.elim
        | some t' =>
          obtain ⟨I5, x5, r5, q5⟩ := o4.keep x4 r4 e
          have n7 := n6 ρ4 I5 H4 x5 r5
          rw [e] at n7
          exact n7 ρ4 I5 H4 .refl r5 y q5
theorem lc_hg (G : Gd X N Γ k W) (hh : N.hot = false) {tg : Tg} {pt : Expr} {scope : Scope} (mt : mTg scope X.N tg pt = true) : ∀ (s : Shared) (H : Hp) (C : Addr) (cl : List (Str × Addr)) (fp : List Addr), PG (X.blk s H scope (compEnvC scope cl C X.env) fp) pt (tTg X.K X.M tg.ixs tg) := fun s H C cl fp =>
    s_tg (X := X.blk s H scope (compEnvC scope cl C X.env) fp) (sc := scope) (G.calm hh) G.nd (blk_loc X s H scope C cl fp) tg.ixs tg pt mt fun _ z => z
theorem s_lc (G : Gd X N Γ k W) (hh : N.hot = false) {elt : E} {tg : Tg} {it : It} {cond : C} {pe pt pi : Expr} {ifs : List Expr} {scope : Scope} {pos : Pos} (ok : BlkOk X.N X.env.scope scope (ownOf X.N tg)) (mt : mTg scope X.N tg pt = true)
    (hi : PI X pt pi (tIt X.K X.M W true (evIt Γ true it))) (hs : notSet pi = true)
    (ht : ∀ (s : Shared) (H : Hp) (C : Addr) (cl : List (Str × Addr)) (fp : List Addr), PTs (X.blk s H scope (compEnvC scope cl C X.env) fp) ifs (tB X.K X.M (fun _ _ _ _ => False) (evC Γ cond)))
    (he : ∀ (s : Shared) (H : Hp) (C : Addr) (cl : List (Str × Addr)) (fp : List Addr), PE (X.blk s H scope (compEnvC scope cl C X.env) fp) pe (tD X.K X.M (fun _ _ _ _ => False) (evE Γ elt))) :
    PE X (.ListComp pe [⟨pt, pi, ifs, 0⟩] scope pos) (tD X.K X.M W (evE Γ (.lc elt tg it cond))) :=
  PE.imp (pe_lc (G.calm hh) G.nd hi ok (lc_hg G hh mt) ht he (not_folded hs)) fun σ H Q q => lc_imp q
theorem s_setLc (G : Gd X N Γ k W) (hh : N.hot = false) {elt : E} {tg : Tg} {it : It} {cond : C} {pe pt pi : Expr} {ifs : List Expr} {scope : Scope} {pos spos py : Pos} {j : Nat} {y : Str} (hy : X.N[j]? = some y) (hyl : X.env.scope.names.lookup y = some .local)
    (hsw : swapsWith (.ListComp pe [⟨pt, pi, ifs, 0⟩] scope pos) (some (.Name y py)) spos.line X.env = pure true) (ok : BlkOk X.N X.env.scope scope (ownOf X.N tg)) (mt : mTg scope X.N tg pt = true)
    (hi : PI X pt pi (tIt X.K X.M W true (evIt Γ true it))) (hs : notSet pi = true)
    (ht : ∀ (s : Shared) (H : Hp) (C : Addr) (cl : List (Str × Addr)) (fp : List Addr), PTs (X.blk s H scope (compEnvC scope cl C X.env) fp) ifs (tB X.K X.M (fun _ _ _ _ => False) (evC Γ cond)))
    (he : ∀ (s : Shared) (H : Hp) (C : Addr) (cl : List (Str × Addr)) (fp : List Addr), PE (X.blk s H scope (compEnvC scope cl C X.env) fp) pe (tD X.K X.M (fun _ _ _ _ => False) (evE Γ elt))) :
    PS X (.Assign [.Name y py] (.ListComp pe [⟨pt, pi, ifs, 0⟩] scope pos) spos) (tAsg (tD X.K X.M W (evE Γ (.lc elt tg it cond))) (gName j)) :=
  PS.imp (ps_setLc (G.calm hh) G.nd hy hyl hsw hi ok (lc_hg G hh mt) ht he (not_folded hs)) fun D σ H q => lc_imp q
end
end VY
namespace VY
open PySem PySem.Spec
open PyProof.Rows hiding St
open L2
def tNub (K : PySem.W.Frag) (ta : TE) : TE := fun σ H Q => ta σ H fun x H1 => ∃ (l : Addr) (ns : List Int), x = .ref l ∧ SqL K H1 l (ns.map V.int) ∧ ns.length ≤ 4000 ∧ Q (.int ((firstMet (fun i => ns.getD i 0) ns.length).length : Nat)) H1
theorem pe_nub {X : Cx} {a : Expr} {ta : TE} {p p2 q pos : Pos} (hg : Gl X "len") (hm : X.mg "len" = none) (hg2 : Gl X "set") (hm2 : X.mg "set" = none) (ha : PE X a ta) (hc : X.calm = true) (na : notStar a = true) :
    PE X (.Call (.Name "len" p) [.Call (.Name "set" p2) [a] [] q] [] pos) (tNub X.K ta) := by
  refine ⟨fun pins s σ H Q inv hh => ?_⟩
  have st := star_eq (es := []) (env := X.env) na
  refine Call_ (ld_blt inv hg hm boot_len (PyProof.Rows.callWith_builtin1 (PyProof.Rows.args_cons ?_ rfl) rfl rfl))
  refine Call_ (ld_blt inv hg2 hm2 boot_set (PyProof.Rows.callWith_type1 (PyProof.Rows.args_cons (thn (ha.run pins s σ H _ inv hh) ?_) st) st rfl))
  rintro v s1 ⟨x, H1, J, rx, l, ns, rfl, hl, hz, hq⟩
  cases rx
  obtain ⟨its, vals, at_, _⟩ := J.list hl
  have sz : its.toArray.size = ns.length := by rw [List.size_toArray, ← vals.length, List.length_map]
  refine PyProof.Rows.args_nil (call_set_list (J.ok.hd hc) at_.isList (by simpa using RZ.intsAre_vals vals) (by rw [sz]; unfold scanBound; omega) fun h2 tk made kept => PyProof.Rows.args_nil ?_)
  rw [sz] at made
  obtain ⟨o, es, ep, t, ho, hex, hd, _, _, _, hf, hn⟩ := made
  have J2 : Inv X pins σ H1 { s1 with heap := h2, toks := tk } := J.kept fun b o e => kept b o (Heap.lt_size e) e
  have few : ∀ i : Nat, (firstMet (fun i => ns.getD i 0) i).length ≤ i := fun i => by
    induction i with
    | zero => exact Nat.le_refl _
    | succ i ih =>
      rw [firstMet_succ]
      unfold step_dedup
      split
      · omega
      · rw [List.length_append, List.length_singleton]; omega
  have fw := few ns.length
  exact call_len_set ho hex hd hf (by rw [hn] <;> omega) ⟨.int (firstMet (fun i => ns.getD i 0) ns.length).length, H1, J2.tok _, ⟨_, by rw [hn]⟩, hq⟩
theorem firstMet_nub (ns : List Int) : ∀ i, i ≤ ns.length → firstMet (fun i => ns.getD i 0) i = nubI (ns.take i)
  | 0, _ => by simp [nubI]; rfl
  | i + 1, h => by
    have hlt : i < ns.length := h
    rw [firstMet_succ, firstMet_nub ns i (Nat.le_of_lt hlt), List.take_succ, List.getElem?_eq_getElem hlt]
    unfold nubI step_dedup
    rw [List.foldl_append, List.getD_eq_getElem?_getD, List.getElem?_eq_getElem hlt]
    rfl
end VY
namespace VY
open PySem PySem.Spec
open PyProof.Rows hiding St
open L2
section
variable {K : PySem.W.Frag} {mg : Mg} {ρ ρ' ρ'' : List Addr} {I I' I'' : Addr → Prop} {h h' h'' : Hs} {H H' H'' H0 : Hp}
/-- the n-th object is another one -/
theorem hr_set {n : Nat} {a : Addr} {u u' : HOb} {o : HO} (r : HR K mg ρ I h H) (ea : ρ[n]? = some a) (eh : h[n]? = some u) (nd : u ≠ .dead) (nd' : u' ≠ .dead)
    (q : ∀ H', (∀ b, I b → H' b = H b) → H' a = some o → RepO K mg ρ I H' a u') : HR K mg ρ I (h.set n u') (upd H a o) := by
  have hn : n < h.length := (List.getElem?_eq_some_iff.mp eh).1
  have la : Live ρ h a := ⟨n, u, ea, eh, nd⟩
  have ni : ¬ I a := r.dis a la
  have lv : ∀ b, Live ρ (h.set n u') b → Live ρ h b := fun b ⟨m, w, e1, e2, d⟩ => by
    by_cases c : n = m
    · subst c; rw [ea] at e1; cases e1; exact la
    · rw [List.getElem?_set_ne c] at e2; exact ⟨m, w, e1, e2, d⟩
  have kp : Kp ρ I H ρ I (upd H a o) := kp_at o ni
  refine ⟨by rw [List.length_set]; exact r.len, fun m m' b w w' e1 e2 e3 e4 d d' => ?_, fun b l => r.dis b (lv b l), fun b i => upd_dom (r.idom b i), fun m w b e1 e2 => ?_⟩
  · by_cases c : n = m <;> by_cases c' : n = m'
    · exact c.symm.trans c'
    · subst c
      rw [List.getElem?_set_ne c'] at e4
      exact r.inj n m' b u w' e1 e2 eh e4 nd d'
    · subst c'
      rw [List.getElem?_set_ne c] at e3
      exact r.inj m n b w u e1 e2 e3 eh d nd
    · rw [List.getElem?_set_ne c] at e3
      rw [List.getElem?_set_ne c'] at e4
      exact r.inj m m' b w w' e1 e2 e3 e4 d d'
  · by_cases c : n = m
    · subst c
      rw [List.getElem?_set_self hn] at e1
      cases e1
      rw [ea] at e2
      cases e2
      exact q _ (fun b i => upd_ne fun z => ni (z ▸ i)) upd_same
    · rw [List.getElem?_set_ne c] at e1
      refine (r.obj m w b e1 e2).mono kp fun d => upd_ne fun z => ?_
      subst z
      exact c (r.inj n m b u w ea e2 eh e1 nd d)
/-- a thing is an object of the heap from now on -/
theorem hr_push {a : Addr} {u : HOb} {K : PySem.W.Frag} {mg : Mg} {ρ : List Addr} {I : Addr → Prop} {h : Hs} {H : Hp} (r : HR K mg ρ I h H) (p : RepO K mg ρ I H a u) (ni : ¬ I a) (nl : ¬ Live ρ h a) :
    HR K mg (ρ ++ [a]) I (h ++ [u]) H ∧ (∀ b, Live (ρ ++ [a]) (h ++ [u]) b → Live ρ h b ∨ b = a) := by
  have ix : ∀ {n : Nat} {b : Addr}, (ρ ++ [a])[n]? = some b → (n < ρ.length ∧ ρ[n]? = some b) ∨ (n = ρ.length ∧ b = a) := fun {n b} e => by
    by_cases hn : n < ρ.length
    · rw [List.getElem?_append_left hn] at e; exact .inl ⟨hn, e⟩
    · rw [List.getElem?_append_right (by omega)] at e
      have z : n - ρ.length = 0 := by
        have := (List.getElem?_eq_some_iff.mp e).1
        simp at this
        omega
      rw [z] at e
      cases e
      exact .inr ⟨by omega, rfl⟩
  have jx : ∀ {n : Nat} {o : HOb}, n < ρ.length → (h ++ [u])[n]? = some o → h[n]? = some o := fun {n o} hn e => by
    rw [List.getElem?_append_left (by rw [← r.len]; exact hn)] at e; exact e
  have kx : ∀ {o : HOb}, (h ++ [u])[ρ.length]? = some o → o = u := fun {o} e => by
    rw [r.len, List.getElem?_append_right (Nat.le_refl _), Nat.sub_self] at e
    cases e; rfl
  have kp : Kp ρ I H (ρ ++ [a]) I H := ⟨fun n b e => by rw [List.getElem?_append_left (List.getElem?_eq_some_iff.mp e).1]; exact e, fun _ e => e, fun _ _ => rfl⟩
  have lv : ∀ b, Live (ρ ++ [a]) (h ++ [u]) b → Live ρ h b ∨ b = a := fun b ⟨n, o, e1, e2, d⟩ => by
    rcases ix e1 with ⟨hn, e⟩ | ⟨_, e⟩
    · exact .inl ⟨n, o, e, jx hn e2, d⟩
    · exact .inr e
  refine ⟨⟨by rw [List.length_append, List.length_append, r.len]; rfl, fun n m b o o' e1 e2 e3 e4 d d' => ?_, fun b l i => (lv b l).elim (fun z => r.dis b z i) fun z => ni (z ▸ i), r.idom, fun n o b e1 e2 => ?_⟩, lv⟩
  · rcases ix e1 with ⟨hn, f1⟩ | ⟨hn, f1⟩ <;> rcases ix e2 with ⟨hm, f2⟩ | ⟨hm, f2⟩
    · exact r.inj n m b o o' f1 f2 (jx hn e3) (jx hm e4) d d'
    · subst f2; exact (nl ⟨n, o, f1, jx hn e3, d⟩).elim
    · subst f1; exact (nl ⟨m, o', f2, jx hm e4, d'⟩).elim
    · omega
  · rcases ix e2 with ⟨hn, f1⟩ | ⟨hn, f1⟩
    · exact (r.obj n o b (jx hn e1) f1).mono kp fun _ => rfl
    · subst f1 hn
      rw [kx e1]
      exact p.mono kp fun _ => rfl
theorem live_set {n : Nat} {a : Addr} {u u' : HOb} (ea : ρ[n]? = some a) (eh : h[n]? = some u) (nd : u ≠ .dead) : ∀ b, Live ρ (h.set n u') b → Live ρ h b := fun b ⟨m, w, e1, e2, d⟩ => by
  by_cases c : n = m
  · subst c; rw [ea] at e1; cases e1; exact ⟨n, u, ea, eh, nd⟩
  · rw [List.getElem?_set_ne c] at e2; exact ⟨m, w, e1, e2, d⟩
/-- an expression changes an object -/
theorem ext_setE {n : Nat} {a : Addr} {u u' : HOb} {o : HO} (ea : ρ[n]? = some a) (eh : h[n]? = some u) (nd : u ≠ .dead) : Ext ρ I h H ρ I (h.set n u') (upd H a o) where
  pre := fun _ _ e => e
  sub := fun _ e => e
  keep := fun b d l => upd_ne fun z => by subst z; exact l ⟨n, u, ea, eh, nd⟩
  dom := fun b d => upd_dom d
  inew := fun b e => .inl e
  lnew := fun b l => .inl (live_set ea eh nd b l)
/-- a thing that stands since then is an object now -/
theorem ext_push {a : Addr} {u : HOb} (x : Ext ρ I h H ρ' I' h' H') (e : H a = none) (lv : ∀ b, Live (ρ' ++ [a]) (h' ++ [u]) b → Live ρ' h' b ∨ b = a) : Ext ρ I h H (ρ' ++ [a]) I' (h' ++ [u]) H' where
  pre := fun n b q => by rw [List.getElem?_append_left (List.getElem?_eq_some_iff.mp (x.pre n b q)).1]; exact x.pre n b q
  sub := x.sub
  keep := x.keep
  dom := x.dom
  inew := x.inew
  lnew := fun b l => (lv b l).elim (x.lnew b) fun z => .inr (z ▸ e)
theorem kp_push {a : Addr} : Kp ρ I H (ρ ++ [a]) I H := ⟨fun n b e => by rw [List.getElem?_append_left (List.getElem?_eq_some_iff.mp e).1]; exact e, fun _ e => e, fun _ _ => rfl⟩
end
theorem mt_reverse {X : Cx} : MtR X "list.reverse" (fun x xs H Q => ∃ a vs, x = .ref a ∧ xs = [] ∧ H a = some (.lst vs) ∧ Q .non (upd H a (.lst vs.reverse))) := by
  intro pins s σ H x xs v us Q I rx rxs hh
  obtain ⟨a, vs, rfl, rfl, ha, q⟩ := hh
  cases rx
  cases rxs
  obtain ⟨z, its, n, r, hl, e⟩ := I.lstM ha
  refine call_meets PySem.F.slot_list_reverse ⟨_, e, rfl⟩ PySem.F.entry_list_reverse (PySem.F.args_list_reverse_1 _) (AutoSeq1.list_reverse_list_0 a its.toArray n (by rw [List.size_toArray]; omega)) ⟨e, ?_⟩
  exact ⟨V.non, _, I.lset (its' := its.reverse) ha e (by simp) r.reverse (by rw [List.length_reverse]; exact z), rfl, q⟩
end VY
namespace VY
open PySem PySem.Spec
open PyProof.Rows hiding St
open L2
theorem Reps.reverse {K : PySem.W.Frag} {mg : Mg} {ρ : List Addr} {I : Addr → Prop} {H : Hp} : ∀ {vs : List V} {l : List T}, Reps K mg ρ I H vs l → Reps K mg ρ I H vs.reverse l.reverse
  | [], [], _ => trivial
  | v :: vs, t :: l, ⟨a, b⟩ => by
    rw [List.reverse_cons, List.reverse_cons]
    exact (Reps.reverse b).append (ws := [v]) (m := [t]) ⟨a, trivial⟩
section
variable {X : Cx} {N : Nms} {Γ : Ctx} {k : Nat} {W : WX}
/-- each part has its reading -/
def AllE (X : Cx) (W : WX) (Γ : Ctx) : List E → List Expr → Prop
  | [], [] => True
  | e :: es, x :: xs => PE X x (tD X.K X.M W (evE Γ e)) ∧ AllE X W Γ es xs
  | _, _ => False
theorem AllE.one {es : List E} {x : Expr} (a : AllE X W Γ es [x]) : ∃ e, es = [e] ∧ PE X x (tD X.K X.M W (evE Γ e)) := by
  match es, a with
  | [e], a => exact ⟨e, rfl, a.1⟩
  | _ :: _ :: _, a => exact a.2.elim
theorem AllE.two {es : List E} {x y : Expr} (a : AllE X W Γ es [x, y]) : ∃ e f, es = [e, f] ∧ PE X x (tD X.K X.M W (evE Γ e)) ∧ PE X y (tD X.K X.M W (evE Γ f)) := by
  match es, a with
  | [e, f], a => exact ⟨e, f, rfl, a.1, a.2.1⟩
  | [_], a => exact a.2.elim
  | _ :: _ :: _ :: _, a => exact a.2.2.elim
/-- one part, then what is made of it -/
theorem op1 {o : Op} {e : E} {σ : St} {H : Hp} {Q : VK} (q : tD X.K X.M W (evE Γ (.op o [e])) σ H Q) :
    tD X.K X.M W (evE Γ e) σ H fun v H1 => ∃ ρ I h σT r, HR X.K X.M ρ I h H1 ∧ SR X.K X.M ρ I h H1 σT σ ∧ RO X.K X.M ρ I h H1 H σT σ v r ∧
      Nx X.K X.M W σ ρ I h H1 (opX σT o [r] h) fun r h' ρ' I' H' => ∀ v, RO X.K X.M ρ' I' h' H' H1 σT σ v r → Q v H' := by
  obtain ⟨ρ, I, σT, h, hr, sr, n⟩ := q
  rw [evE, evRs] at n
  refine ⟨ρ, I, σT, h, hr, sr, n.bind.bind.imp fun r h1 ρ1 I1 H1 x1 r1 n1 v o1 => ?_⟩
  rw [evRs] at n1
  have n2 : Nx X.K X.M W σ ρ1 I1 h1 H1 (opX σT o [r] h1) _ := n1 ρ1 I1 H1 .refl r1
  exact ⟨ρ1, I1, h1, σT, r, r1, sr.ext hr x1, o1, n2.imp fun r h' ρ' I' H' x' r' n' v o => n' v (o.back x1.dom)⟩
theorem s_rev {e : E} {pe : Expr} {k' : Nat} {p1 p2 p3 pos : Pos} (he : PE X pe (tD X.K X.M W (evE Γ e))) : PE X (.Subscript pe (.Slice none none (some (.UnaryOp .USub (.Constant (.int 1) k' p1) p2)) p3) pos) (tD X.K X.M W (evE Γ (.op .rev [e]))) := by
  refine PE.imp (pe_revL he) fun σ H Q q => ?_
  obtain ⟨ρ, I, σT, h, hr, sr, n⟩ := op1 q
  refine ⟨ρ, I, σT, h, hr, sr, n.imp fun r h1 ρ1 I1 H1 x1 r1 n1 v o1 => ?_⟩
  obtain ⟨ρ2, I2, h2, σ2, r', hr2, sr2, o2, n2⟩ := n1 v o1
  have n3 : Nx X.K X.M W σ ρ2 I2 h2 H1 (match peek σ2 h2 r' with | some (.lst l) => Out.ok (R.al l.reverse) h2 | some (.slst l) => .ok (R.al l.reverse) h2 | _ => .bad) _ := n2
  have pk := fun t e => o2.pk (t := t) sr2 hr2 e
  split at n3
  · rename_i l e
    obtain ⟨a, vs, rfl, p, w⟩ := pk _ e
    exact ⟨a, vs, rfl, SqL.of p, fun q hq => n3 ρ2 I2 _ (ext_new _ hq) (hr_new _ hr2 hq) (.ref q) ⟨q, vs.reverse, rfl, hq, upd_same, fun z => not_none (hr2.idom q z) hq, fun z => not_none (live_some hr2 z) hq, (w.reverse).mono (kp_new _ hr2 hq)⟩⟩
  · rename_i l e
    obtain ⟨a, vs, rfl, p, w⟩ := pk _ e
    exact ⟨a, vs, rfl, seq_of p, fun q hq => n3 ρ2 I2 _ (ext_new _ hq) (hr_new _ hr2 hq) (.ref q) ⟨q, vs.reverse, rfl, hq, upd_same, fun z => not_none (hr2.idom q z) hq, fun z => not_none (live_some hr2 z) hq, (w.reverse).mono (kp_new _ hr2 hq)⟩⟩
  · exact n3.elim
theorem s_lns (G : Gd X N Γ k W) (hh : N.hot = false) {e : E} {pe : Expr} {p p2 q pos : Pos} (hg : glbB X.env.scope "len" = true) (hg2 : glbB X.env.scope "set" = true) (na : notStar pe = true) (he : PE X pe (tD X.K X.M W (evE Γ e))) :
    PE X (.Call (.Name "len" p) [.Call (.Name "set" p2) [pe] [] q] [] pos) (tD X.K X.M W (evE Γ (.op .lns [e]))) := by
  refine PE.imp (pe_nub (glb_of hg).1 (G.bl .len) (glb_of hg2).1 (G.fr _ (by decide +kernel)) he (G.calm hh) na) fun σ H Q q => ?_
  obtain ⟨ρ, I, σT, h, hr, sr, n⟩ := op1 q
  refine ⟨ρ, I, σT, h, hr, sr, n.imp fun r h1 ρ1 I1 H1 x1 r1 n1 v o1 => ?_⟩
  obtain ⟨ρ2, I2, h2, σ2, r', hr2, sr2, o2, n2⟩ := n1 v o1
  have n3 : Nx X.K X.M W σ ρ2 I2 h2 H1 (match peek σ2 h2 r' with | some (.lst l) => lift ((intsOf l).bind fun ns => if ns.length ≤ 4000 then some (R.v (.int (nubI ns).length)) else none) h2 | _ => .bad) _ := n2
  have pk := fun t e => o2.pk (t := t) sr2 hr2 e
  split at n3
  · rename_i l e
    obtain ⟨a, vs, rfl, p, w⟩ := pk _ e
    obtain ⟨r, er, g⟩ := n3.lift
    obtain ⟨ns, en, er⟩ := Option.bind_eq_some_iff.mp er
    obtain ⟨c, rfl⟩ := ite_some er
    rw [ints_vs w en] at p
    refine ⟨a, ns, rfl, SqL.of p, c, ?_⟩
    rw [firstMet_nub ns ns.length (Nat.le_refl _), List.take_length]
    exact g ρ2 I2 H1 .refl hr2 _ rfl
  · exact n3.elim
/-- two parts, then what is made of them -/
theorem op2 {o : Op} {a b : E} {σ : St} {H : Hp} {Q : VK} (q : tD X.K X.M W (evE Γ (.op o [a, b])) σ H Q) :
    tD X.K X.M W (evE Γ a) σ H fun v H1 => tD X.K X.M W (evE Γ b) σ H1 fun u H2 => ∃ ρ I h σT r1 r2, HR X.K X.M ρ I h H2 ∧ SR X.K X.M ρ I h H2 σT σ ∧ RO X.K X.M ρ I h H2 H σT σ v r1 ∧ RO X.K X.M ρ I h H2 H σT σ u r2 ∧
      Nx X.K X.M W σ ρ I h H2 (opX σT o [r1, r2] h) fun r h' ρ' I' H' => ∀ v, RO X.K X.M ρ' I' h' H' H2 σT σ v r → Q v H' := by
  obtain ⟨ρ, I, σT, h, hr, sr, n⟩ := q
  rw [evE, evRs] at n
  refine ⟨ρ, I, σT, h, hr, sr, n.bind.bind.imp fun r1 h1 ρ1 I1 H1 x1 hr1 n1 v o1 => ?_⟩
  rw [evRs] at n1
  have s1 := sr.ext hr x1
  refine ⟨ρ1, I1, σT, h1, hr1, s1, n1.bind.bind.imp fun r2 h2 ρ2 I2 H2 x2 hr2 n2 u o2 => ?_⟩
  rw [evRs] at n2
  have n3 : Nx X.K X.M W σ ρ2 I2 h2 H2 (opX σT o [r1, r2] h2) _ := (n2 ρ2 I2 H2 .refl hr2) ρ2 I2 H2 .refl hr2
  exact ⟨ρ2, I2, h2, σT, r1, r2, hr2, s1.ext hr1 x2, o1.ext hr1 x2, o2.back x1.dom, n3.imp fun r h' ρ' I' H' x' r' n' v o => n' v (o.back fun a d => x2.dom a (x1.dom a d))⟩
theorem Nx.nb {K : PySem.W.Frag} {mg : Mg} {W : WX} {σ : St} {ρ : List Addr} {I : Addr → Prop} {h : Hs} {H : Hp} {α : Type} {o : Out α} {kk : α → Hs → List Addr → (Addr → Prop) → Hp → Prop} (n : Nx K mg W σ ρ I h H o kk) : o ≠ .bad := fun e => by
  subst e
  exact n
theorem fdv_inv {σ : Slots} {r1 r2 : R} {h : Hs} (hn : opX σ .fdv [r1, r2] h ≠ .bad) : ∃ i j, r1 = .v (.int i) ∧ r2 = .v (.int j) := by
  cases r1 with
  | al _ => exact (hn rfl).elim
  | bw _ => exact (hn rfl).elim
  | v t => cases r2 with
    | al _ => cases t <;> exact (hn rfl).elim
    | bw _ => cases t <;> exact (hn rfl).elim
    | v u => cases t <;> cases u <;> first | exact ⟨_, _, rfl, rfl⟩ | exact (hn rfl).elim
theorem s_fdv (G : Gd X N Γ k W) (hh : N.hot = false) {a b : E} {pa pb : Expr} {pos : Pos} (ha : PE X pa (tD X.K X.M W (evE Γ a))) (hb : PE X pb (tD X.K X.M W (evE Γ b))) : PE X (.BinOp pa .FloorDiv pb pos) (tD X.K X.M W (evE Γ (.op .fdv [a, b]))) := by
  refine ⟨fun pins s σ H Q I q => ?_⟩
  have q2 : tD X.K X.M W (evE Γ a) σ H fun v H1 => tD X.K X.M W (evE Γ b) σ H1 fun u H2 => ∃ i j, v = .int i ∧ u = .int j ∧ ((j = 0 ∧ ∀ d, W (.type "ZeroDivisionError") d σ H2) ∨ ∃ r, fdivT i j = some r ∧ Q (.int r) H2) := by
    obtain ⟨ρ, I, σT, h, hr, sr, n⟩ := op2 q
    refine ⟨ρ, I, σT, h, hr, sr, n.imp fun r1 h1 ρ1 I1 H1 x1 hr1 n1 v o1 => ?_⟩
    obtain ⟨ρ', I', σ', h', hr', sr', n'⟩ := n1 v o1
    refine ⟨ρ', I', σ', h', hr', sr', n'.imp fun r2 h2 ρ2 I2 H2 x2 hr2 n2 u o2 => ?_⟩
    obtain ⟨ρ3, I3, h3, σ3, r1, r2, hr3, sr3, o1, o2, n3⟩ := n2 u o2
    obtain ⟨i, j, rfl, rfl⟩ := fdv_inv n3.nb
    have n3 : Nx X.K X.M W σ ρ3 I3 h3 H2 (if j = 0 then Out.ex (.blt "ZeroDivisionError") h3 else lift ((fdivT i j).map fun r => R.v (.int r)) h3) _ := n3
    refine ⟨i, j, o1, o2, ?_⟩
    split at n3
    · rename_i hz
      exact .inl ⟨hz, fun d => n3 _ d ρ3 I3 H2 .refl hr3 rfl⟩
    · obtain ⟨r, er, g⟩ := n3.lift
      obtain ⟨z, ez, rfl⟩ := Option.map_eq_some_iff.mp er
      exact .inr ⟨z, ez, g ρ3 I3 H2 .refl hr3 _ rfl⟩
  refine wpAny_BinOp (binT ha hb I q2 fun v u s2 x y H2 J rx ry r => ?_)
  obtain ⟨i, j, rfl, rfl, ⟨hz, w⟩ | ⟨z, ez, q⟩⟩ := r
  · obtain ⟨t, rfl⟩ := (show ∃ t, v = Value.int i t from rx)
    obtain ⟨t', rfl⟩ := (show ∃ t, u = Value.int j t from ry)
    exact AutoIntOps.floordiv_0 (by rw [hz]; rfl) ⟨J.ok.hd (G.calm hh), fun h' tk e hx => takes_new (t' := tk) G.tk J hx w⟩
  · unfold fdivT at ez
    split at ez
    · cases ez
      exact op_fdivW pins s2 σ H2 _ _ v u Q J rx ry ⟨i, j, rfl, rfl, by assumption, q⟩
    · split at ez
      · cases ez
        exact op_fdivN pins s2 σ H2 _ _ v u Q J rx ry ⟨i, j, rfl, rfl, by assumption, q⟩
      · cases ez
/-- the receiver, then the rest -/
theorem mth1 {m : Mt} {o : E} {es : List E} {σ : St} {H : Hp} {Q : VK} (q : tD X.K X.M W (evE Γ (.mth m o es)) σ H Q) :
    tD X.K X.M W (evE Γ o) σ H fun v H1 => ∃ ρ I h σT x, HR X.K X.M ρ I h H1 ∧ SR X.K X.M ρ I h H1 σT σ ∧ RO X.K X.M ρ I h H1 H σT σ v x ∧ mtOk σT h m x = true ∧
      tRs X.K X.M W (evRs Γ es) σ H1 fun vs H2 => ∃ ρ2 I2 h2 rs, HR X.K X.M ρ2 I2 h2 H2 ∧ SR X.K X.M ρ2 I2 h2 H2 σT σ ∧ RO X.K X.M ρ2 I2 h2 H2 H σT σ v x ∧ ROs X.K X.M ρ2 I2 h2 H2 H σT σ vs rs ∧ (∀ a, (H a).isSome → (H2 a).isSome) ∧
        Nx X.K X.M W σ ρ2 I2 h2 H2 (mtX σT x m rs h2) fun r h' ρ' I' H' => ∀ v, RO X.K X.M ρ' I' h' H' H σT σ v r → Q v H' := by
  obtain ⟨ρ, I, σT, h, hr, sr, n⟩ := q
  rw [evE] at n
  refine ⟨ρ, I, σT, h, hr, sr, n.bind.imp fun x h1 ρ1 I1 H1 x1 hr1 n1 v o1 => ?_⟩
  have s1 := sr.ext hr x1
  cases ok : mtOk σT h1 m x with
  | false => rw [ok] at n1; exact n1.elim
  | true =>
    rw [ok] at n1
    have n1 : Nx X.K X.M W σ ρ1 I1 h1 H1 ((evRs Γ es σT h1).bind fun rs h2 => mtX σT x m rs h2) _ := n1
    refine ⟨ρ1, I1, h1, σT, x, hr1, s1, o1, ok, ρ1, I1, σT, h1, hr1, s1, n1.bind.imp fun rs h2 ρ2 I2 H2 x2 hr2 n2 vs ros => ?_⟩
    exact ⟨ρ2, I2, h2, rs, hr2, s1.ext hr1 x2, o1.ext hr1 x2, ros.back x1.dom, fun a d => x2.dom a (x1.dom a d), n2⟩
theorem ros0 {K : PySem.W.Frag} {mg : Mg} {ρ : List Addr} {I : Addr → Prop} {h : Hs} {H H0 : Hp} {σT : Slots} {σ : St} {vs : List V} (q : ROs K mg ρ I h H H0 σT σ vs []) : vs = [] := by
  cases vs with
  | nil => rfl
  | cons => exact q.elim
theorem ros1 {K : PySem.W.Frag} {mg : Mg} {ρ : List Addr} {I : Addr → Prop} {h : Hs} {H H0 : Hp} {σT : Slots} {σ : St} {vs : List V} {r : R} (q : ROs K mg ρ I h H H0 σT σ vs [r]) : ∃ v, vs = [v] ∧ RO K mg ρ I h H H0 σT σ v r := by
  match vs, q with
  | [v], q => exact ⟨v, rfl, q.1⟩
  | _ :: _ :: _, q => exact q.2.elim
theorem ros2 {K : PySem.W.Frag} {mg : Mg} {ρ : List Addr} {I : Addr → Prop} {h : Hs} {H H0 : Hp} {σT : Slots} {σ : St} {vs : List V} {r r' : R} (q : ROs K mg ρ I h H H0 σT σ vs [r, r']) : ∃ v v', vs = [v, v'] ∧ RO K mg ρ I h H H0 σT σ v r ∧ RO K mg ρ I h H H0 σT σ v' r' := by
  match vs, q with
  | [v, v'], q => exact ⟨v, v', rfl, q.1, q.2.1⟩
  | [_], q => exact q.2.elim
  | _ :: _ :: _ :: _, q => exact q.2.2.elim
theorem findIdx_some {ds : List PyData} {d : PyData} {j : Nat} (e : ds.findIdx? (fun z => PyData.eqv z d) = some j) : ∃ z, ds[j]? = some z ∧ PyData.eqv z d = true ∧ ∀ (m : Nat) (z' : PyData), m < j → ds[m]? = some z' → PyData.eqv z' d = false := by
  rw [List.findIdx?_eq_some_iff_getElem] at e
  obtain ⟨hj, h1, h2⟩ := e
  refine ⟨ds[j], List.getElem?_eq_getElem hj, h1, fun m z' hm hz => ?_⟩
  have hl : m < ds.length := by omega
  rw [List.getElem?_eq_getElem hl] at hz
  cases hz
  simpa using h2 m hm
theorem few_ok {env : Env} {cp : Pos} {xs : List Expr} (ns : xs.all notStar = true) (hf : xs.length < 30) : ((backTo cp (starEach xs env)).all (fun x => !x.1) && (backToKw cp (keywordEach [] env)).all (fun x => x.1.isSome)
      && decide (xs.length + ([] : List Keyword).length + (if ([] : List Keyword).isEmpty then 0 else 1) < 30)) = true := by
  have h1 : (backTo cp (starEach xs env)).all (fun x => !x.1) = true := by
    have := star_any (env := env) (pos := cp) ns
    rw [List.all_eq_not_any_not]
    simpa using this
  have h2 : (backToKw cp (keywordEach [] env)).all (fun x => x.1.isSome) = true := rfl
  rw [h1, h2]
  simpa using hf
/-- of a kind -/
def IsTy (X : Cx) (T' : String) (x : V) (H : Hp) : Prop := ∀ (pins : List (Addr × Obj)) (σ : St) (s : Shared) (v : Value), Inv X pins σ H s → RelV x v → s.TypeIs v T' ∧ ∀ a, v = .ref a → ∃ o, s.heap.get? a = some o ∧ o.dict = none
def tMt0 (X : Cx) (T' : String) (r : V → List V → Hp → VK → Prop) (to : TE) : TE := fun σ H Q => to σ H fun x H1 => IsTy X T' x H1 ∧ r x [] H1 Q
def tMt (X : Cx) (T' : String) (r : V → List V → Hp → VK → Prop) (to : TE) (t : TA) : TE := fun σ H Q => to σ H fun x H1 => IsTy X T' x H1 ∧ t σ H1 fun xs H2 => r x xs H2 Q
theorem pe_mt0 {o : Expr} {to : TE} {name : Str} {apos cpos : Pos} {T' id : String} {r : V → List V → Hp → VK → Prop} (pa : PlainAttrs T') (slot : Slot T' name id) (hty : typeOf (.builtin id) = pure (.type "method_descriptor")) (hm : MtR X id r) (ho : PE X o to)
    (hbase : attributeBase o name X.env (eval o X.env) = eval o X.env) (hline : (apos.endLine == cpos.line) = true) : PE X (.Call (.Attribute o name apos) [] [] cpos) (tMt0 X T' r to) := by
  refine ⟨fun pins s σ H Q I q => ?_⟩
  refine wpAny_Call_method0_late hbase hline (thn (ho.run pins s σ H _ I q) fun v s1 ⟨x, H1, I1, r1, ty, q1⟩ => ?_)
  obtain ⟨h1, h2⟩ := ty pins σ s1 v I1 r1
  exact ⟨T', id, pa, slot, hty, h1, h2, Calls.callWith_builtin rfl (PySem.evalArgs_none (hm pins s1 σ H1 x [] v [] Q I1 r1 .nil q1))⟩
theorem pe_mtN {o e : Expr} {es : List Expr} {to : TE} {t : TA} {name : Str} {apos cpos : Pos} {T' id : String} {r : V → List V → Hp → VK → Prop} (pa : PlainAttrs T') (slot : Slot T' name id) (hty : typeOf (.builtin id) = pure (.type "method_descriptor")) (hm : MtR X id r) (ho : PE X o to) (ha : PA X (e :: es) t)
    (hbase : attributeBase o name X.env (eval o X.env) = eval o X.env)
    (hfew : ((backTo cpos (starEach (e :: es) X.env)).all (fun x => !x.1) && (backToKw cpos (keywordEach [] X.env)).all (fun x => x.1.isSome)
      && decide ((e :: es).length + ([] : List Keyword).length + (if ([] : List Keyword).isEmpty then 0 else 1) < 30)) = true)
    (hline : (apos.endLine == cpos.line) = true) (hs : starEach (e :: es) X.env = (false, eval e X.env) :: starEach es X.env) (hplain : (backTo cpos (starEach es X.env)).any (·.1) = false) :
    PE X (.Call (.Attribute o name apos) (e :: es) [] cpos) (tMt X T' r to t) := by
  refine ⟨fun pins s σ H Q I q => ?_⟩
  refine wpAny_Call_method_late hbase hfew hline rfl (thn (ho.run pins s σ H _ I q) fun v s1 ⟨x, H1, I1, r1, ty, q1⟩ => ?_)
  obtain ⟨h1, h2⟩ := ty pins σ s1 v I1 r1
  refine ⟨T', id, pa, slot, hty, h1, h2, ?_⟩
  have hA := ha.run cpos pins s1 σ H1 _ I1 q1
  rw [hs] at hA ⊢
  refine Calls.callWith_builtin (by show (false || (backTo cpos (starEach es X.env)).any (·.1)) = false; rw [hplain] <;> rfl) (Calls.evalArgs_plain ?_)
  exact thn hA fun us s2 ⟨vs, H2, I2, r2, q2⟩ => hm pins s2 σ H2 x vs v us Q I2 r1 r2 q2
/-- a method by its rule -/
theorem mth_gen {m : Mt} {o : E} {es : List E} {pe : Expr} {xs : List Expr} {ap cp : Pos} {T' id : String} {r : V → List V → Hp → VK → Prop} (pa : PlainAttrs T') (slot : Slot T' m.name id) (hty : typeOf (.builtin id) = pure (.type "method_descriptor")) (hm : MtR X id r)
    (ho : PE X pe (tD X.K X.M W (evE Γ o))) (hes : PA X xs (tRs X.K X.M W (evRs Γ es))) (ns : xs.all notStar = true) (hl : (ap.endLine == cp.line) = true) (hb : baseOk pe = true) (hf : xs.length < 30) (he : xs = [] → es = [])
    (ty : ∀ {σ : St} {ρ : List Addr} {I : Addr → Prop} {h : Hs} {H H0 : Hp} {σT : Slots} {v : V} {x : R}, HR X.K X.M ρ I h H → SR X.K X.M ρ I h H σT σ → RO X.K X.M ρ I h H H0 σT σ v x → mtOk σT h m x = true → IsTy X T' v H)
    (go : ∀ {σ : St} {ρ : List Addr} {I : Addr → Prop} {h : Hs} {H H0 : Hp} {σT : Slots} {v : V} {x : R} {vs : List V} {rs : List R} {Q : VK}, HR X.K X.M ρ I h H → SR X.K X.M ρ I h H σT σ → RO X.K X.M ρ I h H H0 σT σ v x → ROs X.K X.M ρ I h H H0 σT σ vs rs → (∀ a, (H0 a).isSome → (H a).isSome) →
      Nx X.K X.M W σ ρ I h H (mtX σT x m rs h) (fun r h' ρ' I' H' => ∀ v, RO X.K X.M ρ' I' h' H' H0 σT σ v r → Q v H') → r v vs H Q) :
    PE X (.Call (.Attribute pe m.name ap) xs [] cp) (tD X.K X.M W (evE Γ (.mth m o es))) := by
  cases xs with
  | nil =>
    refine PE.imp (pe_mt0 pa slot hty hm ho (base_of hb) hl) fun σ H Q q => ?_
    obtain ⟨ρ, I, σT, h, hr, sr, n⟩ := mth1 q
    refine ⟨ρ, I, σT, h, hr, sr, n.imp fun x h1 ρ1 I1 H1 x1 hr1 n1 v o1 => ?_⟩
    obtain ⟨ρ2, I2, h2, σ2, x2, hr2, sr2, o2, ok, q3⟩ := n1 v o1
    refine ⟨ty hr2 sr2 o2 ok, ?_⟩
    cases he rfl
    obtain ⟨ρ3, I3, σ3, h3, hr3, sr3, n3⟩ := q3
    rw [evRs] at n3
    obtain ⟨ρ5, I5, h5, rs5, hr5, sr5, o5, ros5, d5, n5⟩ := n3 ρ3 I3 _ .refl hr3 [] trivial
    exact go hr5 sr5 o5 ros5 d5 n5
  | cons px pxs =>
    have ns' : (notStar px && pxs.all notStar) = true := by rw [← List.all_cons]; exact ns
    refine PE.imp (pe_mtN pa slot hty hm ho hes (base_of hb) (few_ok ns hf) hl (star_eq (and_tt ns').1) (star_any (and_tt ns').2)) fun σ H Q q => ?_
    obtain ⟨ρ, I, σT, h, hr, sr, n⟩ := mth1 q
    refine ⟨ρ, I, σT, h, hr, sr, n.imp fun x h1 ρ1 I1 H1 x1 hr1 n1 v o1 => ?_⟩
    obtain ⟨ρ2, I2, h2, σ2, x2, hr2, sr2, o2, ok, ρ3, I3, σ3, h3, hr3, sr3, n3⟩ := n1 v o1
    refine ⟨ty hr2 sr2 o2 ok, ρ3, I3, σ3, h3, hr3, sr3, n3.imp fun rs h4 ρ4 I4 H4 x4 hr4 n4 vs ros => ?_⟩
    obtain ⟨ρ5, I5, h5, rs5, hr5, sr5, o5, ros5, d5, n5⟩ := n4 vs ros
    exact go hr5 sr5 o5 ros5 d5 n5
theorem mt_dget2 {X : Cx} (hu : X.A.units + 1 < cLine) : MtR X "dict.get" (fun x xs H Q => ∃ a y z o, x = .ref a ∧ xs = [y, z] ∧ DGet H a y o ∧ Q (o.getD z) H) := by
  intro pins s σ H x xs v us Q I rx rxs hh
  obtain ⟨a, y, z, o, rfl, rfl, g, q⟩ := hh
  cases rx
  obtain ⟨u, w, rfl, ry, rz⟩ := rxs.two
  exact d_get2 hu I g ry rz fun w' s4 I4 rw' => ⟨_, H, I4, rw', q⟩
/-- a list's kind -/
theorem ty_list {σ : St} {ρ : List Addr} {I : Addr → Prop} {h : Hs} {H H0 : Hp} {σT : Slots} {v : V} {x : R} (hr : HR X.K X.M ρ I h H) (sr : SR X.K X.M ρ I h H σT σ) (o : RO X.K X.M ρ I h H H0 σT σ v x)
    (ok : (match peek σT h x with | some (.lst _) => true | some (.slst _) => true | _ => false) = true) : IsTy X "list" v H := by
  intro pins σ s u J ru
  refine tyV_is J ru ?_
  split at ok
  · rename_i l e
    obtain ⟨b, ws, rfl, p, _⟩ := o.pk sr hr e
    exact .inl ⟨rfl, ws, SqL.of p⟩
  · rename_i l e
    obtain ⟨b, ws, rfl, p, _⟩ := o.pk sr hr e
    exact .inl ⟨rfl, ws, seq_of p⟩
  · cases ok
theorem ty_dict {σ : St} {ρ : List Addr} {I : Addr → Prop} {h : Hs} {H H0 : Hp} {σT : Slots} {v : V} {x : R} (hr : HR X.K X.M ρ I h H) (sr : SR X.K X.M ρ I h H σT σ) (o : RO X.K X.M ρ I h H H0 σT σ v x)
    (ok : (match peek σT h x with | some (.dct _) => true | _ => false) = true) : IsTy X "dict" v H := by
  intro pins σ s u J ru
  split at ok
  · rename_i l e
    obtain ⟨b, ws, rfl, p, _⟩ := o.pk sr hr e
    cases ru
    obtain ⟨t1, t2, _⟩ := isD_at J (.inl ⟨ws, p⟩)
    exact ⟨t1, t2⟩
  · cases ok
theorem s_mth (G : Gd X N Γ k W) (hh : N.hot = false) {m : Mt} {o : E} {es : List E} {pe : Expr} {xs : List Expr} {ap cp : Pos} (ho : PE X pe (tD X.K X.M W (evE Γ o))) (a : AllE X W Γ es xs) (hes : PA X xs (tRs X.K X.M W (evRs Γ es))) (ns : xs.all notStar = true)
    (hl : (ap.endLine == cp.line) = true) (hb : baseOk pe = true) (hf : xs.length = m.ar) : PE X (.Call (.Attribute pe m.name ap) xs [] cp) (tD X.K X.M W (evE Γ (.mth m o es))) := by
  have lt : xs.length < 30 := by rw [hf]; cases m <;> decide
  have he : xs = [] → es = [] := fun z => by
    subst z
    cases es with
    | nil => rfl
    | cons => exact a.elim
  cases m with
  | index =>
    refine mth_gen PySem.F.plainAttrs_list PySem.F.slot_list_index PySem.F.type_list_index (mt_indexD G.hu) ho hes ns hl hb lt he (fun hr sr o ok => ty_list hr sr o ok) ?_
    intro σ ρ I h H H0 σT v x vs rs Q hr sr o ros d n
    match rs, ros, n with
    | [], _, n => exact n.elim
    | _ :: _ :: _, _, n => exact n.elim
    | [y], ros, n =>
      obtain ⟨u, rfl, oy⟩ := ros1 ros
      have fin : ∀ (b : Addr) (ws : List V) (l : List T) (t : T), SqL X.K H b ws → Reps X.K X.M ρ I H ws l → Pk X.K X.M ρ I H u t → ∀ {kk : R → Hs → List Addr → (Addr → Prop) → Hp → Prop}, Nx X.K X.M W σ ρ I h H (lift ((idxT t l).map fun (j : Nat) => R.v (.int j)) h) kk →
          (∀ j : Nat, kk (.v (.int j)) h ρ I H → Q (.int j) H) → rIndexD X.K (.ref b) [u] H Q := fun b ws l t s w p kk n fq => by
        obtain ⟨r, er, g⟩ := n.lift
        obtain ⟨j, ej, rfl⟩ := Option.map_eq_some_iff.mp er
        unfold idxT at ej
        cases z : toD t with
        | none => rw [z] at ej; cases ej
        | some d =>
          cases z' : toDs l with
          | none => rw [z, z'] at ej; cases ej
          | some ds =>
            rw [z, z'] at ej
            simp only [] at ej
            split at ej
            · rename_i c
              obtain ⟨zz, h1, h2, h3⟩ := findIdx_some ej
              exact ⟨b, u, d, ds, j, zz, rfl, rfl, .lst s (w.dp z'), p.dp z, (and_tt c).2, (and_tt c).1, h1, h2, h3, fq j (g ρ I H .refl hr)⟩
            · cases ej
      have n : Nx X.K X.M W σ ρ I h H (match peek σT h x, peek σT h y with
        | some (.lst l), some t => lift ((idxT t l).map fun (j : Nat) => R.v (.int j)) h
        | some (.slst l), some t => lift ((idxT t l).map fun (j : Nat) => R.v (.int j)) h
        | _, _ => .bad) _ := n
      split at n
      · rename_i l t e1 e2
        obtain ⟨b, ws, rfl, p, w⟩ := o.pk sr hr e1
        exact fin b ws l t (SqL.of p) w (oy.pk sr hr e2) n fun j q => q _ rfl
      · rename_i l t e1 e2
        obtain ⟨b, ws, rfl, p, w⟩ := o.pk sr hr e1
        exact fin b ws l t (seq_of p) w (oy.pk sr hr e2) n fun j q => q _ rfl
      · exact n.elim
  | get =>
    refine mth_gen PySem.F.plainAttrs_dict PySem.F.slot_dict_get PySem.F.type_dict_get (mt_dget2 (by have := G.hu; omega)) ho hes ns hl hb lt he (fun hr sr o ok => ty_dict hr sr o ok) ?_
    intro σ ρ I h H H0 σT v x vs rs Q hr sr o ros d n
    match rs, ros, n with
    | [], _, n => exact n.elim
    | [r], _, n => exact (by cases r <;> exact (show False from n).elim)
    | .al _ :: _ :: [], _, n => exact n.elim
    | .bw _ :: _ :: [], _, n => exact n.elim
    | r :: _ :: _ :: _, _, n => exact (by cases r <;> exact (show False from n).elim)
    | [.v y, z], ros, n =>
      obtain ⟨u, w, rfl, oy, oz⟩ := ros2 ros
      have n : Nx X.K X.M W σ ρ I h H (match peek σT h x, keyT y with
        | some (.dct l), some k => (match lookT l k with
          | some t => Out.ok (R.v t) h
          | none => .ok z h)
        | _, _ => .bad) _ := n
      split at n
      · rename_i l kk e1 e2
        obtain ⟨b, ov, rfl, dg, g1, g2⟩ := dget_of (o.pk sr hr e1) oy e2
        refine ⟨b, u, w, ov, rfl, rfl, dg, ?_⟩
        split at n
        · rename_i t et
          obtain ⟨w', rfl, rw'⟩ := g1 t et
          exact n ρ I H .refl hr w' rw'
        · rename_i et
          rw [g2 et]
          exact n ρ I H .refl hr w oz
      · exact n.elim
  | reverse =>
    refine mth_gen PySem.F.plainAttrs_list PySem.F.slot_list_reverse PySem.F.type_list_reverse mt_reverse ho hes ns hl hb lt he (fun {σ ρ I h H H0 σT v x} hr sr oo ok => ?_) ?_
    · unfold mtOk at ok
      simp only [] at ok
      split at ok
      · refine ty_list hr sr oo ?_
        split at ok
        · rename_i e; rw [e]
        · cases ok
      · cases ok
    · intro σ ρ I h H H0 σT v x vs rs Q hr sr o ros d n
      match rs, ros, n with
      | _ :: _, _, n => exact n.elim
      | [], ros, n =>
        cases ros0 ros
        have hx : ∃ m, x = .v (.ref m) := by
          cases x with
          | v t => cases t <;> first | exact ⟨_, rfl⟩ | exact n.elim
          | al _ => exact n.elim
          | bw _ => exact n.elim
        obtain ⟨m, rfl⟩ := hx
        have n : Nx X.K X.M W σ ρ I h H (match h[m]? with
            | some (.lst l) => Out.ok (R.v .non) (h.set m (.lst l.reverse))
            | _ => .bad) _ := n
        · split at n
          · rename_i l e
            obtain ⟨b, rfl, eb⟩ := (show ∃ a, v = .ref a ∧ ρ[m]? = some a from o)
            obtain ⟨ws, p, w⟩ := hr.obj m _ b e eb
            have nd : HOb.lst l ≠ .dead := fun z => by cases z
            have nd' : HOb.lst l.reverse ≠ .dead := fun z => by cases z
            exact ⟨b, ws, rfl, rfl, p, n ρ I _ (ext_setE eb e nd) (hr_set hr eb e nd nd' fun H' kp up => ⟨_, up, Reps.mono ⟨fun _ _ e => e, fun _ e => e, kp⟩ w.reverse⟩) _ rfl⟩
          · exact n.elim
def trsOf (X : Cx) (W : WX) (Γ : Ctx) : List E → List (TE × TE)
  | k :: v :: es => (tD X.K X.M W (evE Γ k), tD X.K X.M W (evE Γ v)) :: trsOf X W Γ es
  | _ => []
/-- pairs in turn -/
def flatP : List (V × V) → List V
  | [] => []
  | (x, y) :: r => x :: y :: flatP r
theorem pairs_run {σ : St} {σT : Slots} : ∀ (es : List E) {ρ : List Addr} {I : Addr → Prop} {h : Hs} {H : Hp} {kk : List T → Hs → List Addr → (Addr → Prop) → Hp → Prop} {Q : List (V × V) → Hp → Prop}, es.length % 2 = 0 → HR X.K X.M ρ I h H → SR X.K X.M ρ I h H σT σ → Nx X.K X.M W σ ρ I h H (evEs Γ es σT h) kk →
    (∀ ps H2 ρ2 I2 h2 ts, Ext ρ I h H ρ2 I2 h2 H2 → HR X.K X.M ρ2 I2 h2 H2 → Reps X.K X.M ρ2 I2 H2 (flatP ps) ts → kk ts h2 ρ2 I2 H2 → Q ps H2) → tPairs (trsOf X W Γ es) σ H Q
  | [], ρ, I, h, H, kk, Q, _, hr, sr, n, k => by
    rw [evEs] at n
    exact k [] H ρ I h [] .refl hr trivial (n ρ I H .refl hr)
  | [_], ρ, I, h, H, kk, Q, e, _, _, _, _ => by simp at e
  | a :: b :: es, ρ, I, h, H, kk, Q, he, hr, sr, n, k => by
    rw [evEs] at n
    refine ⟨ρ, I, σT, h, hr, sr, n.bind.imp' fun x h1 ρ1 I1 H1 x1 hr1 n0 v o1 => ?_⟩
    cases e : frz x with
    | none => have n1 := n0 ρ1 I1 H1 x1 hr1; rw [e] at n1; exact n1.elim
    | some t =>
      obtain ⟨J1, y1, q1, r1⟩ := o1.keep x1 hr1 e
      have n1 := n0 ρ1 J1 H1 y1 q1
      rw [e, evEs] at n1
      have sr1 := sr.ext hr y1
      refine ⟨ρ1, J1, σT, h1, q1, sr1, n1.bind.bind.imp' fun x' h2 ρ2 I2 H2 x2 hr2 m0 u o2 => ?_⟩
      cases e' : frz x' with
      | none => have m1 := m0 ρ2 I2 H2 x2 hr2; rw [e'] at m1; exact m1.elim
      | some t' =>
        obtain ⟨J2, y2, q2, r2⟩ := o2.keep x2 hr2 e'
        have m1 := m0 ρ2 J2 H2 y2 q2
        rw [e'] at m1
        have sr2 := sr1.ext q1 y2
        refine pairs_run es (by simp at he; omega) q2 sr2 m1.bind fun ps H3 ρ3 I3 h3 ts y3 q3 rp k3 => ?_
        exact k ((v, u) :: ps) H3 ρ3 I3 h3 (t :: t' :: ts) ((y1.trans y2).trans y3) q3 ⟨(r1.mono (y2.kp q1)).mono (y3.kp q2), r2.mono (y3.kp q2), rp⟩ ((k3 ρ3 I3 H3 .refl q3) ρ3 I3 H3 .refl q3)
theorem Nx.bind0 {K : PySem.W.Frag} {mg : Mg} {W : WX} {σ : St} {ρ : List Addr} {I : Addr → Prop} {h : Hs} {H : Hp} {α β : Type} {o : Out α} {g : α → Hs → Out β} {kk : β → Hs → List Addr → (Addr → Prop) → Hp → Prop} (n : Nx K mg W σ ρ I h H (o.bind g) kk) :
    Nx K mg W σ ρ I h H o fun a h' _ _ _ => Nx K mg W σ ρ I h H (g a h') kk := by
  cases o with
  | ok a h1 => exact fun _ _ _ _ _ => n
  | ex x h1 => exact n
  | bad => exact n
theorem pairs_at {K : PySem.W.Frag} {mg : Mg} {ρ : List Addr} {I : Addr → Prop} {H : Hp} : ∀ {ps : List (V × V)} {ts : List T} {kvs : List (Key × T)}, pairsT ts = some kvs → Reps K mg ρ I H (flatP ps) ts →
    ∃ ws : List (Key × V), ps = ws.map (fun kv => (kV kv.1, kv.2)) ∧ RepD K mg ρ I H ws kvs
  | [], [], kvs, e, _ => by cases e; exact ⟨[], rfl, trivial⟩
  | (x, y) :: ps, k :: t :: ts, kvs, e, ⟨r1, r2, r⟩ => by
    rw [pairsT] at e
    cases ek : keyT k with
    | none => rw [ek] at e; cases e
    | some kk =>
      cases er : pairsT ts with
      | none => rw [ek, er] at e; cases e
      | some m =>
        rw [ek, er] at e
        cases e
        obtain ⟨ws, e1, e2⟩ := pairs_at er r
        exact ⟨(kk, y) :: ws, by rw [keyT_kV r1 ek, e1]; rfl, rfl, r2, e2⟩
/-- a new dict -/
theorem s_dsp {es : List E} {keys : List (Option Expr)} {values : List Expr} {pos : Pos} (P : PPs X pos keys values (trsOf X W Γ es)) (hall : keys.all (·.isSome) = true) (hl : keys.length = values.length) (h0 : keys ≠ []) (h15 : keys.length ≤ 15) (he : es.length % 2 = 0) :
    PE X (.Dict keys values pos) (tD X.K X.M W (evE Γ (.dsp es))) := by
  refine PE.imp (pe_disp P hall hl h0 h15) fun σ H Q q => ?_
  obtain ⟨ρ, I, σT, h, hr, sr, n⟩ := q
  rw [evE] at n
  intro p hp
  have x0 : Ext ρ I h H ρ I h (upd H p (.dK [])) := ext_new _ hp
  have hr0 := hr_new (.dK []) hr hp
  have n0 := n.bind0.from x0
  refine pairs_run es he hr0 (sr.ext hr x0) n0 fun ps H2 ρ2 I2 h2 ts x2 hr2 rp k2 => ?_
  have nl : ¬ Live ρ h p := fun z => not_none (live_some hr z) hp
  have hp2 : H2 p = some (.dK []) := (x2.keep p (isSome_of upd_same) nl).trans upd_same
  split at k2
  · rename_i kvs ek
    split at k2
    · rename_i c
      obtain ⟨ws, e1, e3⟩ := pairs_at ek rp
      refine ⟨hp2, ws, e1, by rw [e3.len]; exact c.1, ?_⟩
      have ni2 : ¬ I2 p := fun z => by
        rcases x2.inew p z with i | i | i
        · exact not_none (hr.idom p i) hp
        · rw [upd_same] at i; cases i
        · exact nl i
      have nl2 : ¬ Live ρ2 h2 p := fun z => by
        rcases x2.lnew p z with i | i
        · exact nl i
        · rw [upd_same] at i; cases i
      have kp := kp_at (ρ := ρ2) (I := I2) (H := H2) (.dK (mergeK [] ws)) ni2
      have hr3 := hr_at (.dK (mergeK [] ws)) hr2 ni2 nl2
      have w3 : RepD X.K X.M ρ2 I2 (upd H2 p (.dK (mergeK [] ws))) (mergeK [] ws) (mergeT [] kvs) := (RepD.merge e3 (show RepD X.K X.M ρ2 I2 H2 [] [] from trivial)).mono kp
      obtain ⟨hr4, lv⟩ := hr_push hr3 (u := .dct (mergeT [] kvs)) ⟨_, upd_same, w3⟩ ni2 nl2
      have x3 : Ext ρ I h H ρ2 I2 h2 (upd H2 p (.dK (mergeK [] ws))) := by
        have x := x0.trans x2
        refine ⟨x.pre, x.sub, fun b d l => ?_, fun b d => upd_dom (x.dom b d), x.inew, x.lnew⟩
        rw [upd_ne (fun z => by subst z; exact not_none d hp)]
        exact x.keep b d l
      refine k2 _ _ _ (ext_push x3 hp lv) hr4 _ ?_
      exact ⟨p, rfl, by rw [← hr2.len, List.getElem?_append_right (Nat.le_refl _), Nat.sub_self]; rfl⟩
    · exact k2.elim
  · exact k2.elim
theorem s_op (G : Gd X N Γ k W) (hh : N.hot = false) {o : Op} {es : List E} {pe : Expr} {xs : List Expr} (hs : shp X.env.scope o pe = some xs) (a : AllE X W Γ es xs) : PE X pe (tD X.K X.M W (evE Γ (.op o es))) := by
  cases o with
  | rev =>
    have hs : shpRev pe = some xs := hs
    unfold shpRev at hs
    split at hs
    · split at hs
      · rename_i hi
        subst hi
        cases hs
        obtain ⟨e, rfl, he⟩ := a.one
        exact s_rev he
      · cases hs
    · cases hs
  | lns =>
    have hs : shpLns X.env.scope pe = some xs := hs
    unfold shpLns at hs
    split at hs
    · split at hs
      · rename_i hi
        cases hs
        have q := and_tt hi
        have q1 := and_tt q.1
        have q2 := and_tt q1.1
        have q3 := and_tt q2.1
        cases of_decide_eq_true q3.1
        cases of_decide_eq_true q3.2
        obtain ⟨e, rfl, he⟩ := a.one
        exact s_lns G hh q2.2 q1.2 q.2 he
      · cases hs
    · cases hs
  | fdv =>
    have hs : shpFdv pe = some xs := hs
    unfold shpFdv at hs
    split at hs
    · cases hs
      obtain ⟨e, f, rfl, he, hf⟩ := a.two
      exact s_fdv G hh he hf
    · cases hs
end
end VY
namespace VY
open PySem PySem.Spec
open PyProof.Rows hiding St
open L2
theorem pts_yes {X : Cx} {K : PySem.W.Frag} {mg : Mg} {W : WX} {Γ : Ctx} : PTs X [] (tB K mg W (evC Γ .yes)) := by
  refine ⟨fun pins s σ H Q I w => pts_nil.run pins s σ H Q I ?_⟩
  obtain ⟨ρ, I', σT, h, hr, sr, n⟩ := w
  exact n ρ I' H .refl hr
theorem ff {P : Prop} (h : false = true) : P := nomatch h
theorem relS_env (X : Cx) (s : Shared) (H : Hp) (scope : Scope) (C : Addr) (cl : List (Str × Addr)) (fp : List Addr) : (X.blk s H scope (compEnvC scope cl C X.env) fp).env.scope = relS scope X.env.scope := rfl
mutual
theorem sE {N : Nms} {Γ : Ctx} {k : Nat} : ∀ (e : E) {X : Cx} {W : WX} (G : Gd X N Γ k W) {pe : Expr}, mE N X.N X.env.scope e pe = true → PE X pe (tD X.K X.M W (evE Γ e))
  | .c _, X, W, G, pe, m => by
    unfold mE at m; split at m
    · exact s_c m
    · exact ff m
  | .var _, X, W, G, pe, m => by
    unfold mE at m; split at m
    · exact s_var (of_decide_eq_true (and_tt (and_tt m).1).1) (and_tt (and_tt m).1).2 (and_tt m).2
    · exact ff m
  | .gl _, X, W, G, pe, m => by
    unfold mE at m; split at m
    · exact s_gl G (of_decide_eq_true (and_tt m).1) (and_tt m).2
    · exact ff m
  | .bin op a b, X, W, G, pe, m => by
    unfold mE at m; split at m
    · have q := and_tt m
      have q1 := and_tt q.1
      cases of_decide_eq_true q1.1
      exact s_bin op (sE a G q1.2) (sE b G q.2)
    · exact ff m
  | .neg a, X, W, G, pe, m => by
    unfold mE at m; split at m
    · exact s_neg (sE a G m)
    · exact ff m
  | .not a, X, W, G, pe, m => by
    unfold mE at m; split at m
    · exact s_not (sE a G m)
    · exact ff m
  | .bop op es, X, W, G, pe, m => by
    unfold mE at m; split at m
    · have q := and_tt m
      cases of_decide_eq_true q.1
      exact sB es G q.2
    · exact ff m
  | .cmp op a b, X, W, G, pe, m => by
    unfold mE at m; split at m
    · split at m
      · have q := and_tt m
        have q1 := and_tt q.1
        have q2 := and_tt q1.1
        cases of_decide_eq_true q2.1
        refine PE.imp (pe_cmpR (cmp_sound (mg := X.M) rfl G.hu op) (sE a G q2.2) (sE b G q1.2) (not_marks q.2)) fun σ H Q z => ?_
        obtain ⟨ρ, I, σT, h, hr, sr, n⟩ := s_cmp G op (sE a G q2.2) (sE b G q1.2) z
        refine ⟨ρ, I, σT, h, hr, sr, n.imp fun r h' ρ' I' H' x' r' n' v o => ?_⟩
        obtain ⟨ρ1, I1, σ1, h1, hr1, sr1, n1⟩ := n' v o
        refine ⟨ρ1, I1, σ1, h1, hr1, sr1, n1.imp fun r h' ρ' I' H' x' r' n' v o => ?_⟩
        obtain ⟨ρ2, I2, h2, t, u, k, a1, a2, a3, a4, _, a5⟩ := n' v o
        exact ⟨ρ2, I2, h2, t, u, k, a1, a2, a3, a4, a5⟩
      · exact ff m
    · exact ff m
  | .ch op op' a b c, X, W, G, pe, m => by
    unfold mE at m; split at m
    · split at m
      · have q := and_tt m
        have q1 := and_tt q.1
        have q2 := and_tt q1.1
        have q3 := and_tt q2.1
        have q4 := and_tt q3.1
        cases of_decide_eq_true q4.1
        cases of_decide_eq_true q4.2
        refine PE.imp (pe_chain (cmp_sound (mg := X.M) rfl G.hu op) (cmp_sound (mg := X.M) rfl G.hu op') (sE a G q3.2) (sE b G q2.2) (sE c G q1.2) (show behindInMarks op' _ = false from not_marks q.2)) fun σ H Q z => ?_
        exact chain_imp tD_imp tD_imp tD_imp rCmp_imp rCmp_imp (fun v H' z => z.2) (s_ch G op op' z)
      · exact ff m
    · exact ff m
  | .ife c a b, X, W, G, pe, m => by
    unfold mE at m; split at m
    · have q := and_tt m
      have q1 := and_tt q.1
      exact s_ife (sC c G q1.1) (sE a G q1.2) (sE b G q.2)
    · exact ff m
  | .tup es, X, W, G, pe, m => by
    unfold mE at m; split at m
    · exact s_tup (sEs es G (and_tt m).1 (and_tt m).2)
    · exact ff m
  | .lst es, X, W, G, pe, m => by
    unfold mE at m; split at m
    · exact s_lst (sEs es G (and_tt m).1 (and_tt m).2)
    · exact ff m
  | .ix a b, X, W, G, pe, m => by
    unfold mE at m; split at m
    · have q := and_tt m
      have q1 := and_tt q.1
      exact s_ix G (sE a G q1.1) (sE b G q1.2) q.2
    · exact ff m
  | .sl a lo hi, X, W, G, pe, m => by
    unfold mE at m; split at m
    · split at m
      · have q := and_tt m
        have q1 := and_tt q.1
        exact s_sl (sE a G q1.1) (sO lo G q1.2) (sO hi G q.2)
      · exact ff m
    · exact ff m
  | .call f es, X, W, G, pe, m => by
    unfold mE at m; split at m
    · have q := and_tt m
      have q1 := and_tt q.1
      have q2 := and_tt q1.1
      have q3 := and_tt q2.1
      have q4 := and_tt q3.1
      exact s_call G (by simpa using q4.1) (of_decide_eq_true q4.2) (of_decide_eq_true q3.2) q2.2 (sEs es G q1.2 q.2) q.2 (fun z => by
        subst z
        cases es with
        | nil => rfl
        | cons e es => exact ff q1.2)
    · exact ff m
  | .op o es, X, W, G, pe, m => by
    unfold mE at m
    have q := and_tt m
    cases hs : shp X.env.scope o pe with
    | none => rw [hs] at q; exact ff q.2
    | some xs => rw [hs] at q; exact s_op G (by simpa using q.1) hs (sAll es G q.2)
  | .mth mt o es, X, W, G, pe, m => by
    unfold mE at m; split at m
    · have q := and_tt m
      have q1 := and_tt q.1
      have q2 := and_tt q1.1
      have q3 := and_tt q2.1
      have q4 := and_tt q3.1
      have q5 := and_tt q4.1
      have q6 := and_tt q5.1
      cases of_decide_eq_true q6.2
      exact s_mth G (by simpa using q6.1) (sE o G q3.2) (sAll es G q2.2) (sRs es G q2.2 q1.2) q1.2 q5.2 q4.2 (of_decide_eq_true q.2)
    · exact ff m
  | .dsp es, X, W, G, pe, m => by
    unfold mE at m; split at m
    · rename_i ks vs pos
      have q := and_tt m
      have q1 := and_tt q.1
      obtain ⟨k1, k2, k3, k4⟩ := sKV es G (pos := pos) q1.1
      exact s_dsp k1 k2 k3 (fun z => by subst z; cases q.2) (of_decide_eq_true q1.2) k4
    · exact ff m
  | .callv i es, X, W, G, pe, m => by
    unfold mE at m; split at m
    · rename_i x p xs pos
      have q := and_tt m
      have q1 := and_tt q.1
      have q2 := and_tt q1.1
      have q3 := and_tt q2.1
      have q4 := and_tt q3.1
      have q5 := and_tt q4.1
      cases xs with
      | nil => exact ff q.2
      | cons pa ps => exact s_callv G (by simpa using q5.1) (of_decide_eq_true q5.2) q4.2 q3.2 (sEs es G q2.2 q1.2) q1.2
    · exact ff m
  | .blt f es, X, W, G, pe, m => by
    unfold mE at m; split at m
    · rename_i x p xs pos
      have q := and_tt m
      have q1 := and_tt q.1
      have q2 := and_tt q1.1
      have q3 := and_tt q2.1
      have q4 := and_tt q3.1
      cases of_decide_eq_true q4.2
      cases xs with
      | nil => exact ff q.2
      | cons pa ps => exact s_blt G q3.2 (by simpa using q4.1) (sRs es G q2.2 q1.2) q1.2
    · exact ff m
  | .lc elt tg it cond, X, W, G, pe, m => by
    unfold mE at m; split at m
    · split at m
      · rename_i t iter ifs a
        have q := and_tt m
        have q1 := and_tt q.1
        have q2 := and_tt q1.1
        have q3 := and_tt q2.1
        have q4 := and_tt q3.1
        have q5 := and_tt q4.1
        have q6 := and_tt q5.1
        cases of_decide_eq_true q6.2
        refine s_lc G (by simpa using q6.1) (blkOk_by q5.2) q4.2 (sIt it true G t q3.2) q2.2 (fun s H C cl fp => ?_) (fun s H C cl fp => sE elt (G.blk s H _ (compEnvC _ cl C X.env) fp) q1.2)
        have qc := q.2
        split at qc
        · split at qc
          · exact pts_yes
          · exact ff qc
        · split at qc
          · exact ff qc
          · exact pts_one (sC cond (G.blk s H _ (compEnvC _ cl C X.env) fp) qc)
        · exact ff qc
      · exact ff m
    · exact ff m
theorem sB {N : Nms} {Γ : Ctx} {k : Nat} : ∀ (es : List E) {X : Cx} {W : WX} (G : Gd X N Γ k W) {ps : List Expr} {op : BoolOp} {pos : Pos}, mEs N X.N X.env.scope es ps = true → PE X (.BoolOp op ps pos) (tD X.K X.M W (evB Γ op es))
  | [], X, W, G, ps, op, pos, m => by
    refine ⟨fun pins s σ H Q I w => ?_⟩
    obtain ⟨ρ, I', σT, h, hr, sr, n⟩ := w
    exact n.elim
  | [a], X, W, G, ps, op, pos, m => by
    match ps, m with
    | [pa], m => exact s_b1 (sE a G (and_tt m).1)
    | _ :: _ :: _, m => exact ff (and_tt m).2
  | a :: b :: es, X, W, G, ps, op, pos, m => by
    match ps, m with
    | pa :: pb :: ps, m => exact s_b2 (sE a G (and_tt m).1) (sB (b :: es) G (and_tt m).2)
    | [_], m => exact ff (and_tt m).2
theorem sO {N : Nms} {Γ : Ctx} {k : Nat} : ∀ (o : O) {X : Cx} {W : WX} (G : Gd X N Γ k W) {pe : Option Expr}, mO N X.N X.env.scope o pe = true → PO X pe (tO X.K X.M W (evO Γ o))
  | .no, X, W, G, none, m => s_o0
  | .at e, X, W, G, some pe, m => s_o1 (sE e G m)
  | .no, X, W, G, some pe, m => ff m
  | .at e, X, W, G, none, m => ff m
theorem sIt {N : Nms} {Γ : Ctx} {k : Nat} : ∀ (it : It) (own : Bool) {X : Cx} {W : WX} (G : Gd X N Γ k W) (tg : Expr) {pe : Expr}, mIt N X.N X.env.scope it pe = true → PI X tg pe (tIt X.K X.M W own (evIt Γ own it))
  | .e a, own, X, W, G, tg, pe, m => s_ite (sE a G (and_tt m).1)
  | .r1 a, own, X, W, G, tg, pe, m => by
    unfold mIt at m; split at m
    · split at m
      · have q := and_tt m
        have q1 := and_tt q.1
        have q2 := and_tt q1.1
        cases of_decide_eq_true q2.1
        exact s_itr1 G q2.2 (sE a G q1.2) q.2
      · exact ff m
    · exact ff m
  | .r2 a b, own, X, W, G, tg, pe, m => by
    unfold mIt at m; split at m
    · split at m
      · have q := and_tt m
        have q1 := and_tt q.1
        have q2 := and_tt q1.1
        have q3 := and_tt q2.1
        have q4 := and_tt q3.1
        cases of_decide_eq_true q4.1
        exact s_itr2 G q4.2 (sE a G q3.2) (sE b G q2.2) q1.2 q.2
      · exact ff m
    · exact ff m
theorem sC {N : Nms} {Γ : Ctx} {k : Nat} : ∀ (c : C) {X : Cx} {W : WX} (G : Gd X N Γ k W) {pe : Expr}, mCd N X.N X.env.scope c pe = true → PT X pe (tB X.K X.M W (evC Γ c))
  | .yes, X, W, G, pe, m => ff m
  | .t (.cmp op a b), X, W, G, pe, m => by
    have m : mE N X.N X.env.scope (.cmp op a b) pe = true := m
    unfold mE at m; split at m
    · split at m
      · have q := and_tt m
        have q1 := and_tt q.1
        have q2 := and_tt q1.1
        cases of_decide_eq_true q2.1
        exact s_tcmp G op (sE a G q2.2) (sE b G q1.2) q.2
      · exact ff m
    · exact ff m
  | .t (.ch op op' a b c), X, W, G, pe, m => by
    have m : mE N X.N X.env.scope (.ch op op' a b c) pe = true := m
    unfold mE at m; split at m
    · split at m
      · have q := and_tt m
        have q1 := and_tt q.1
        have q2 := and_tt q1.1
        have q3 := and_tt q2.1
        have q4 := and_tt q3.1
        cases of_decide_eq_true q4.1
        cases of_decide_eq_true q4.2
        exact s_tch G op op' (sE a G q3.2) (sE b G q2.2) (sE c G q1.2) q.2
      · exact ff m
    · exact ff m
  | .t (.c x), X, W, G, pe, m => s_t (sE (.c x) G (and_tt m).1) (and_tt m).2
  | .t (.var x), X, W, G, pe, m => s_t (sE (.var x) G (and_tt m).1) (and_tt m).2
  | .t (.gl x), X, W, G, pe, m => s_t (sE (.gl x) G (and_tt m).1) (and_tt m).2
  | .t (.bin op a b), X, W, G, pe, m => s_t (sE (.bin op a b) G (and_tt m).1) (and_tt m).2
  | .t (.neg a), X, W, G, pe, m => s_t (sE (.neg a) G (and_tt m).1) (and_tt m).2
  | .t (.not a), X, W, G, pe, m => s_t (sE (.not a) G (and_tt m).1) (and_tt m).2
  | .t (.bop op es), X, W, G, pe, m => s_t (sE (.bop op es) G (and_tt m).1) (and_tt m).2
  | .t (.ife c a b), X, W, G, pe, m => s_t (sE (.ife c a b) G (and_tt m).1) (and_tt m).2
  | .t (.tup es), X, W, G, pe, m => s_t (sE (.tup es) G (and_tt m).1) (and_tt m).2
  | .t (.lst es), X, W, G, pe, m => s_t (sE (.lst es) G (and_tt m).1) (and_tt m).2
  | .t (.ix a b), X, W, G, pe, m => s_t (sE (.ix a b) G (and_tt m).1) (and_tt m).2
  | .t (.sl a lo hi), X, W, G, pe, m => s_t (sE (.sl a lo hi) G (and_tt m).1) (and_tt m).2
  | .t (.call f es), X, W, G, pe, m => s_t (sE (.call f es) G (and_tt m).1) (and_tt m).2
  | .t (.op o es), X, W, G, pe, m => s_t (sE (.op o es) G (and_tt m).1) (and_tt m).2
  | .t (.mth mt o es), X, W, G, pe, m => s_t (sE (.mth mt o es) G (and_tt m).1) (and_tt m).2
  | .t (.dsp es), X, W, G, pe, m => s_t (sE (.dsp es) G (and_tt m).1) (and_tt m).2
  | .t (.callv f es), X, W, G, pe, m => s_t (sE (.callv f es) G (and_tt m).1) (and_tt m).2
  | .t (.blt f es), X, W, G, pe, m => s_t (sE (.blt f es) G (and_tt m).1) (and_tt m).2
  | .t (.lc elt tg it cond), X, W, G, pe, m => s_t (sE (.lc elt tg it cond) G (and_tt m).1) (and_tt m).2
  | .not c, X, W, G, pe, m => by
    unfold mCd at m; split at m
    · exact s_tnot (sC c G m)
    · exact ff m
  | .bop op cs, X, W, G, pe, m => by
    unfold mCd at m; split at m
    · have q := and_tt m
      cases of_decide_eq_true q.1
      exact (sCs cs G q.2).pt
    · exact ff m
theorem sCs {N : Nms} {Γ : Ctx} {k : Nat} : ∀ (cs : List C) {X : Cx} {W : WX} (G : Gd X N Γ k W) {ps : List Expr} {op : BoolOp} {pos : Pos}, mCds N X.N X.env.scope cs ps = true → PW X (.BoolOp op ps pos) (tB X.K X.M W (evCs Γ op cs))
  | [], X, W, G, ps, op, pos, m => by
    refine ⟨fun wh pins s σ H Q I w => ?_⟩
    obtain ⟨ρ, I', σT, h, hr, sr, n⟩ := w
    exact n.elim
  | [a], X, W, G, ps, op, pos, m => by
    match ps, m with
    | [pa], m => exact s_tb1 (sC a G (and_tt m).1)
    | _ :: _ :: _, m => exact ff (and_tt m).2
  | a :: b :: cs, X, W, G, ps, op, pos, m => by
    match ps, m with
    | pa :: pb :: ps, m => exact s_tb2 (sC a G (and_tt m).1) (sCs (b :: cs) G (and_tt m).2)
    | [_], m => exact ff (and_tt m).2
theorem sEs {N : Nms} {Γ : Ctx} {k : Nat} : ∀ (es : List E) {X : Cx} {W : WX} (G : Gd X N Γ k W) {ps : List Expr}, mEs N X.N X.env.scope es ps = true → ps.all notStar = true → PA X ps (tEs X.K X.M W (evEs Γ es))
  | [], X, W, G, [], m, a => s_es0
  | e :: es, X, W, G, pa :: ps, m, a => by
    rw [List.all_cons] at a
    exact s_es1 (sE e G (and_tt m).1) (sEs es G (and_tt m).2 (and_tt a).2) (and_tt a).1
  | [], X, W, G, _ :: _, m, a => ff m
  | _ :: _, X, W, G, [], m, a => ff m
theorem sKV {N : Nms} {Γ : Ctx} {k : Nat} : ∀ (es : List E) {X : Cx} {W : WX} (G : Gd X N Γ k W) {ks : List (Option Expr)} {vs : List Expr} {pos : Pos}, mKV N X.N X.env.scope es ks vs = true →
    PPs X pos ks vs (trsOf X W Γ es) ∧ ks.all (·.isSome) = true ∧ ks.length = vs.length ∧ es.length % 2 = 0
  | [], X, W, G, [], [], pos, m => ⟨pps_nil, rfl, rfl, rfl⟩
  | [], X, W, G, [], _ :: _, pos, m => ff m
  | [], X, W, G, _ :: _, _, pos, m => ff (by unfold mKV at m; exact m)
  | [_], X, W, G, _, _, pos, m => ff (by unfold mKV at m; exact m)
  | _ :: _ :: _, X, W, G, [], _, pos, m => ff (by unfold mKV at m; exact m)
  | _ :: _ :: _, X, W, G, none :: _, _, pos, m => ff (by unfold mKV at m; exact m)
  | _ :: _ :: _, X, W, G, some _ :: _, [], pos, m => ff (by unfold mKV at m; exact m)
  | k :: v :: es, X, W, G, some pk :: ks, pv :: vs, pos, m => by
    have q := and_tt m
    have q1 := and_tt q.1
    obtain ⟨k1, k2, k3, k4⟩ := sKV es G (pos := pos) q.2
    exact ⟨pps_cons (sE k G q1.1) (sE v G q1.2) k1, by rw [List.all_cons, k2]; rfl, congrArg (· + 1) k3, by simp only [List.length_cons]; omega⟩
theorem sAll {N : Nms} {Γ : Ctx} {k : Nat} : ∀ (es : List E) {X : Cx} {W : WX} (G : Gd X N Γ k W) {ps : List Expr}, mEs N X.N X.env.scope es ps = true → AllE X W Γ es ps
  | [], X, W, G, [], m => trivial
  | e :: es, X, W, G, p :: ps, m => ⟨sE e G (and_tt m).1, sAll es G (and_tt m).2⟩
  | [], X, W, G, _ :: _, m => ff m
  | _ :: _, X, W, G, [], m => ff m
theorem sRs {N : Nms} {Γ : Ctx} {k : Nat} : ∀ (es : List E) {X : Cx} {W : WX} (G : Gd X N Γ k W) {ps : List Expr}, mEs N X.N X.env.scope es ps = true → ps.all notStar = true → PA X ps (tRs X.K X.M W (evRs Γ es))
  | [], X, W, G, [], m, a => s_rs0
  | e :: es, X, W, G, pa :: ps, m, a => by
    rw [List.all_cons] at a
    exact s_rs1 (sE e G (and_tt m).1) (sRs es G (and_tt m).2 (and_tt a).2) (and_tt a).1
  | [], X, W, G, _ :: _, m, a => ff m
  | _ :: _, X, W, G, [], m, a => ff m
end
end VY
namespace VY
open PySem PySem.Spec
open PyProof.Rows hiding St
open L2
/-- a slot's own list -/
def Own (σT : Slots) (σ : St) (a : Addr) : Prop := ∃ (i : Nat) (l : List T), σT[i]? = some (some (.al l)) ∧ σ[i]? = some (some (.ref a))
structure SExt (ρ : List Addr) (I : Addr → Prop) (h : Hs) (H : Hp) (σT : Slots) (σ : St) (ρ' : List Addr) (I' : Addr → Prop) (h' : Hs) (H' : Hp) (σT' : Slots) (σ' : St) : Prop where
  pre : ∀ (n : Nat) (a : Addr), ρ[n]? = some a → ρ'[n]? = some a
  sub : ∀ a, I a → I' a
  keep : ∀ a, (H a).isSome → ¬ Live ρ h a → ¬ Own σT σ a → H' a = H a
  dom : ∀ a, (H a).isSome → (H' a).isSome
  inew : ∀ a, I' a → I a ∨ H a = none ∨ Live ρ h a ∨ Own σT σ a
  lnew : ∀ a, Live ρ' h' a → Live ρ h a ∨ H a = none ∨ Own σT σ a
  onew : ∀ a, Own σT' σ' a → Own σT σ a ∨ H a = none
section
variable {K : PySem.W.Frag} {mg : Mg} {ρ ρ' ρ'' : List Addr} {I I' I'' : Addr → Prop} {h h' h'' : Hs} {H H' H'' H0 : Hp} {σT σT' σT'' : Slots} {σ σ' σ'' : St} {W W' : WX}
theorem none_or {o : Option HO} : o = none ∨ o.isSome := by cases o; exact .inl rfl; exact .inr rfl
theorem SExt.of (x : Ext ρ I h H ρ' I' h' H') : SExt ρ I h H σT σ ρ' I' h' H' σT σ :=
  ⟨x.pre, x.sub, fun a d l _ => x.keep a d l, x.dom, fun a i => (x.inew a i).imp id fun z => z.imp id .inl, fun a l => (x.lnew a l).imp id .inl, fun a o => .inl o⟩
theorem SExt.refl : SExt ρ I h H σT σ ρ I h H σT σ := .of .refl
theorem SExt.trans (a : SExt ρ I h H σT σ ρ' I' h' H' σT' σ') (b : SExt ρ' I' h' H' σT' σ' ρ'' I'' h'' H'' σT'' σ'') : SExt ρ I h H σT σ ρ'' I'' h'' H'' σT'' σ'' where
  pre := fun n x e => b.pre n x (a.pre n x e)
  sub := fun x e => b.sub x (a.sub x e)
  keep := fun x d l o => by
    have l' : ¬ Live ρ' h' x := fun z => (a.lnew x z).elim l fun z => z.elim (not_none d) o
    have o' : ¬ Own σT' σ' x := fun z => (a.onew x z).elim o (not_none d)
    rw [b.keep x (a.dom x d) l' o', a.keep x d l o]
  dom := fun x d => b.dom x (a.dom x d)
  inew := fun x i => by
    rcases b.inew x i with z | z | z | z
    · exact a.inew x z
    · rcases none_or (o := H x) with d | d
      · exact .inr (.inl d)
      · exact (not_none (a.dom x d) z).elim
    · exact (a.lnew x z).elim (fun q => .inr (.inr (.inl q))) fun q => q.elim (fun q => .inr (.inl q)) fun q => .inr (.inr (.inr q))
    · exact (a.onew x z).elim (fun q => .inr (.inr (.inr q))) fun q => .inr (.inl q)
  lnew := fun x l => by
    rcases b.lnew x l with z | z | z
    · exact a.lnew x z
    · rcases none_or (o := H x) with d | d
      · exact .inr (.inl d)
      · exact (not_none (a.dom x d) z).elim
    · exact (a.onew x z).elim (fun q => .inr (.inr q)) fun q => .inr (.inl q)
  onew := fun x l => by
    rcases b.onew x l with z | z
    · exact a.onew x z
    · rcases none_or (o := H x) with d | d
      · exact .inr d
      · exact (not_none (a.dom x d) z).elim
theorem SR.own (s : SR K mg ρ I h H σT σ) {a : Addr} (o : Own σT σ a) : (H a).isSome ∧ ¬ I a ∧ ¬ Live ρ h a := by
  obtain ⟨i, l, e1, e2⟩ := o
  obtain ⟨b, vs, q, p, ni, nl, _⟩ := s.als i l e1
  rw [e2] at q
  cases q
  exact ⟨isSome_of p, ni, nl⟩
theorem SExt.ikeep (x : SExt ρ I h H σT σ ρ' I' h' H' σT' σ') (r : HR K mg ρ I h H) (s : SR K mg ρ I h H σT σ) {a : Addr} (i : I a) : H' a = H a := x.keep a (r.idom a i) (fun l => r.dis a l i) fun o => (s.own o).2.1 i
theorem SExt.kp (x : SExt ρ I h H σT σ ρ' I' h' H' σT' σ') (r : HR K mg ρ I h H) (s : SR K mg ρ I h H σT σ) : Kp ρ I H ρ' I' H' := ⟨x.pre, x.sub, fun _ i => x.ikeep r s i⟩
/-- what a return gives -/
def RS (K : PySem.W.Frag) (mg : Mg) (ρ : List Addr) (I : Addr → Prop) (h : Hs) (H : Hp) (H0 : Hp) (σT : Slots) (σ : St) (v : V) : R → Prop
  | .v t => Rep K mg ρ I H v t
  | .al l => ∃ a vs, v = .ref a ∧ (H0 a = none ∨ Own σT σ a) ∧ H a = some (.lst vs) ∧ ¬ I a ∧ ¬ Live ρ h a ∧ Reps K mg ρ I H vs l
  | .bw _ => False
/-- behind a statement -/
def NS (K : PySem.W.Frag) (mg : Mg) (W : WX) (ρ : List Addr) (I : Addr → Prop) (h : Hs) (H : Hp) (σT : Slots) (σ : St) (o : SO) (D : Ends) : Prop :=
  match o with
  | .ok f σT' h' => ∀ ρ' I' H' σ', SExt ρ I h H σT σ ρ' I' h' H' σT' σ' → HR K mg ρ' I' h' H' → SR K mg ρ' I' h' H' σT' σ' → match f with
    | .nx => D.nx σ' H'
    | .brk => D.bk σ' H'
    | .ct => D.ct σ' H'
    | .ret r => ∀ v, RS K mg ρ' I' h' H' H σT σ v r → D.rt v H'
  | .ex x σT' h' => ∀ cls d ρ' I' H' σ', SExt ρ I h H σT σ ρ' I' h' H' σT' σ' → HR K mg ρ' I' h' H' → SR K mg ρ' I' h' H' σT' σ' → XR K mg ρ' I' H' cls d x → W cls d σ' H'
  | .bad => False
def tS (K : PySem.W.Frag) (mg : Mg) (W : WX) (f : Slots → Hs → SO) : TS := fun D σ H => ∃ ρ I σT h, HR K mg ρ I h H ∧ SR K mg ρ I h H σT σ ∧ NS K mg W ρ I h H σT σ (f σT h) D
theorem RS.back {v : V} {r : R} (o : RS K mg ρ'' I'' h'' H'' H' σT' σ' v r) (x : SExt ρ I h H σT σ ρ' I' h' H' σT' σ') : RS K mg ρ'' I'' h'' H'' H σT σ v r := by
  cases r with
  | v t => exact o
  | al l =>
    obtain ⟨a, vs, e, n, q⟩ := o
    refine ⟨a, vs, e, ?_, q⟩
    rcases n with n | n
    · rcases none_or (o := H a) with d | d
      · exact .inl d
      · exact (not_none (x.dom a d) n).elim
    · exact (x.onew a n).symm
  | bw i => exact o
/-- started later -/
theorem NS.from {o : SO} {D : Ends} (n : NS K mg W ρ I h H σT σ o D) (x : SExt ρ I h H σT σ ρ' I' h' H' σT' σ') : NS K mg W ρ' I' h' H' σT' σ' o D := by
  cases o with
  | ok f σ2 h2 =>
    intro ρ2 I2 H2 σ2' x2 r2 s2
    have q := n ρ2 I2 H2 σ2' (x.trans x2) r2 s2
    cases f with
    | ret r => exact fun v z => q v (z.back x)
    | _ => exact q
  | ex y σ2 h2 => exact fun cls d ρ2 I2 H2 σ2' x2 r2 s2 => n cls d ρ2 I2 H2 σ2' (x.trans x2) r2 s2
  | bad => exact n
/-- behind an expression -/
theorem NS.sb {α : Type} {o : Out α} {k : α → Hs → SO} {D : Ends} (n : NS K mg W ρ I h H σT σ (sb σT o k) D) (sr : SR K mg ρ I h H σT σ) (hr : HR K mg ρ I h H) :
    Nx K mg W σ ρ I h H o fun a h' ρ' I' H' => NS K mg W ρ I h H σT σ (k a h') D := by
  cases o with
  | ok a h1 => exact fun ρ1 I1 H1 x1 r1 => n
  | ex y h1 => exact fun cls d ρ1 I1 H1 x1 r1 z => n cls d ρ1 I1 H1 σ (.of x1) r1 (sr.ext hr x1) z
  | bad => exact n
/-- .. at slots of its own -/
theorem NS.sb' {α : Type} {o : Out α} {k : α → Hs → SO} {D : Ends} (n : NS K mg W ρ I h H σT σ (VY.sb σT' o k) D) (x : SExt ρ I h H σT σ ρ' I' h' H' σT' σ') (sr : SR K mg ρ' I' h' H' σT' σ') (hr : HR K mg ρ' I' h' H') :
    Nx K mg W σ' ρ' I' h' H' o fun a h2 _ _ _ => NS K mg W ρ I h H σT σ (k a h2) D := by
  cases o with
  | ok a h1 => exact fun ρ1 I1 H1 x1 r1 => n
  | ex y h1 => exact fun cls d ρ1 I1 H1 x1 r1 z => n cls d ρ1 I1 H1 σ' (x.trans (.of x1)) r1 (sr.ext hr x1) z
  | bad => exact n
theorem NS.nx {D : Ends} (n : NS K mg W ρ I h H σT σ (.ok .nx σT' h') D) : ∀ ρ' I' H' σ', SExt ρ I h H σT σ ρ' I' h' H' σT' σ' → HR K mg ρ' I' h' H' → SR K mg ρ' I' h' H' σT' σ' → D.nx σ' H' := n
theorem NS.rt {D : Ends} {r : R} (n : NS K mg W ρ I h H σT σ (.ok (.ret r) σT' h') D) : ∀ ρ' I' H' σ' v, SExt ρ I h H σT σ ρ' I' h' H' σT' σ' → HR K mg ρ' I' h' H' → SR K mg ρ' I' h' H' σT' σ' → RS K mg ρ' I' h' H' H σT σ v r → D.rt v H' := fun ρ' I' H' σ' v x r s q => n ρ' I' H' σ' x r s v q
theorem get_set {α : Type} {l : List (Option α)} {i j : Nat} {x y : Option α} (e : (l.set i x)[j]? = some y) : (i = j ∧ i < l.length ∧ x = y) ∨ (i ≠ j ∧ l[j]? = some y) := by
  by_cases c : i = j
  · subst c
    by_cases hi : i < l.length
    · rw [List.getElem?_set_self hi] at e
      exact .inl ⟨rfl, hi, Option.some.inj e⟩
    · rw [List.getElem?_eq_none (by rw [List.length_set]; omega)] at e; cases e
  · rw [List.getElem?_set_ne c] at e
    exact .inr ⟨c, e⟩
/-- a slot takes a list that nobody else holds -/
theorem SR.setA (s : SR K mg ρ I h H σT σ) {a : Addr} {vs : List V} {l : List T} (p : H a = some (.lst vs)) (ni : ¬ I a) (nl : ¬ Live ρ h a) (w : Reps K mg ρ I H vs l) (i : Nat)
    (no : ∀ (j : Nat) (m : List T), j ≠ i → σT[j]? = some (some (.al m)) → σ[j]? = some (some (.ref a)) → False) : SR K mg ρ I h H (σT.set i (some (.al l))) (σ.set i (some (.ref a))) where
  len := by rw [List.length_set, List.length_set]; exact s.len
  vs := fun j u e => by
    rcases get_set e with ⟨_, _, z⟩ | ⟨c, z⟩
    · cases z
    · rw [List.getElem?_set_ne c]; exact s.vs j u z
  als := fun j m e => by
    rcases get_set e with ⟨c, hi, z⟩ | ⟨c, z⟩
    · subst c
      cases z
      exact ⟨a, vs, List.getElem?_set_self (by rw [← s.len]; exact hi), p, ni, nl, w⟩
    · rw [List.getElem?_set_ne c]; exact s.als j m z
  adj := fun j j' m m' b e1 e2 e3 e4 => by
    rcases get_set e1 with ⟨c, hi, z⟩ | ⟨c, z⟩ <;> rcases get_set e2 with ⟨c', hi', z'⟩ | ⟨c', z'⟩
    · exact c.symm.trans c'
    · subst c
      rw [List.getElem?_set_self (by rw [← s.len]; exact hi)] at e3
      rw [List.getElem?_set_ne c'] at e4
      cases e3
      exact (no j' m' (Ne.symm c') z' e4).elim
    · subst c'
      rw [List.getElem?_set_self (by rw [← s.len]; exact hi')] at e4
      rw [List.getElem?_set_ne c] at e3
      cases e4
      exact (no j m (Ne.symm c) z e3).elim
    · rw [List.getElem?_set_ne c] at e3
      rw [List.getElem?_set_ne c'] at e4
      exact s.adj j j' m m' b z z' e3 e4
theorem own_set {i : Nat} {t : T} {v : V} {a : Addr} (o : Own (σT.set i (some (.v t))) (σ.set i (some v)) a) : Own σT σ a := by
  obtain ⟨j, l, e1, e2⟩ := o
  rcases get_set e1 with ⟨_, _, z⟩ | ⟨c, z⟩
  · cases z
  · rw [List.getElem?_set_ne c] at e2; exact ⟨j, l, z, e2⟩
theorem own_setA {i : Nat} {l : List T} {b a : Addr} (o : Own (σT.set i (some (.al l))) (σ.set i (some (.ref b))) a) : Own σT σ a ∨ a = b := by
  obtain ⟨j, m, e1, e2⟩ := o
  rcases get_set e1 with ⟨c, hi, z⟩ | ⟨c, z⟩
  · subst c
    rcases get_set e2 with ⟨_, _, z'⟩ | ⟨c, _⟩
    · cases z'; exact .inr rfl
    · exact (c rfl).elim
  · rw [List.getElem?_set_ne c] at e2; exact .inl ⟨j, m, z, e2⟩
/-- what an expression gave, stored: x from the statement's start -/
theorem put_ok {v : V} {r : R} {s : Sl} {i : Nat} (x : Ext ρ I h H ρ' I' h' H') (r' : HR K mg ρ' I' h' H') (sr : SR K mg ρ' I' h' H' σT σ) (sr0 : SR K mg ρ I h H σT σ) (o : RO K mg ρ' I' h' H' H σT σ v r) (e : putR r = some s) :
    SExt ρ I h H σT σ ρ' I' h' H' (σT.set i (some s)) (σ.set i (some v)) ∧ SR K mg ρ' I' h' H' (σT.set i (some s)) (σ.set i (some v)) := by
  have x0 : SExt ρ I h H σT σ ρ' I' h' H' σT σ := .of x
  cases r with
  | v t => cases e; exact ⟨{ x0 with onew := fun a z => .inl (own_set z) }, sr.set o i⟩
  | al l =>
    cases e
    obtain ⟨a, vs, rfl, n, p, ni, nl, w⟩ := o
    refine ⟨{ x0 with onew := fun b z => (own_setA z).imp id fun q => by rw [q]; exact n }, sr.setA p ni nl w i fun j m _ e1 e2 => ?_⟩
    exact not_none (sr0.own ⟨j, m, e1, e2⟩).1 n
  | bw i => cases e
end
mutual
theorem asg_own : ∀ (g : Tg) (t : T) {σT σT' : Slots}, asgT g t σT = some σT' → ∀ (i : Nat) (l : List T), σT'[i]? = some (some (.al l)) → σT[i]? = some (some (.al l)) ∧ i ∉ g.ixs
  | .nm j, t, σT, σT', e, i, l, z => by
    cases e
    rcases get_set z with ⟨_, _, q⟩ | ⟨c, q⟩
    · cases q
    · exact ⟨q, by simpa [Tg.ixs] using fun e => c e.symm⟩
  | .tp gs, .tup ts, σT, σT', e, i, l, z => asgs_own gs ts e i l z
  | .tp gs, .non, _, _, e, _, _, _ => nomatch e
  | .tp gs, .bl _, _, _, e, _, _, _ => nomatch e
  | .tp gs, .int _, _, _, e, _, _, _ => nomatch e
  | .tp gs, .str _, _, _, e, _, _, _ => nomatch e
  | .tp gs, .ty _, _, _, e, _, _, _ => nomatch e
  | .tp gs, .gl _, _, _, e, _, _, _ => nomatch e
  | .tp gs, .ref _, _, _, e, _, _, _ => nomatch e
  | .tp gs, .lst ts, σT, σT', e, i, l, z => asgs_own gs ts e i l z
  | .tp gs, .slst _, _, _, e, _, _, _ => nomatch e
  | .tp gs, .dct _, _, _, e, _, _, _ => nomatch e
  | .tp gs, .ins _ _, _, _, e, _, _, _ => nomatch e
theorem asgs_own : ∀ (gs : List Tg) (ts : List T) {σT σT' : Slots}, asgTs gs ts σT = some σT' → ∀ (i : Nat) (l : List T), σT'[i]? = some (some (.al l)) → σT[i]? = some (some (.al l)) ∧ i ∉ ixss gs
  | [], [], σT, σT', e, i, l, z => by cases e; exact ⟨z, by simp [ixss]⟩
  | g :: gs, t :: ts, σT, σT', e, i, l, z => by
    rw [asgTs] at e
    cases y : asgT g t σT with
    | none => rw [y] at e; cases e
    | some σ1 =>
      rw [y] at e
      obtain ⟨q1, n1⟩ := asgs_own gs ts e i l z
      obtain ⟨q2, n2⟩ := asg_own g t y i l q1
      exact ⟨q2, by rw [ixss, List.mem_append]; exact fun z => z.elim n2 n1⟩
  | [], _ :: _, _, _, e, _, _, _ => nomatch e
  | _ :: _, [], _, _, e, _, _, _ => nomatch e
end
section
variable {K : PySem.W.Frag} {mg : Mg} {ρ ρ' ρ'' : List Addr} {I I' I'' : Addr → Prop} {h h' h'' : Hs} {H H' H'' H0 : Hp} {σT σT' σT'' : Slots} {σ σ' σ'' : St} {W W' : WX}
theorem asg_ext {g : Tg} {t : T} (e : asgT g t σT = some σT') (ew : L2.wipe σ' g.ixs = L2.wipe σ g.ixs) (x : Ext ρ I h H ρ' I' h' H') : SExt ρ I h H σT σ ρ' I' h' H' σT' σ' := by
  have x0 : SExt ρ I h H σT σ ρ' I' h' H' σT σ := .of x
  refine { x0 with onew := fun a ⟨j, l, e1, e2⟩ => .inl ?_ }
  obtain ⟨q1, n1⟩ := asg_own g t e j l e1
  have q2 : (L2.wipe σ' g.ixs)[j]? = (L2.wipe σ g.ixs)[j]? := by rw [ew]
  rw [wipe_get, wipe_get, if_neg n1, if_neg n1] at q2
  exact ⟨j, l, q1, q2.symm.trans e2⟩
end
section
variable {X : Cx} {N : Nms} {Γ : Ctx} {k : Nat} {W : WX} {e o i : E} {pe po pi pg : Expr} {pos : Pos}
/-- a function's context -/
structure Gs (X : Cx) (N : Nms) (Γ : Ctx) (k : Nat) (W : WX) : Prop extends Gd X N Γ k W where
  kind : X.env.scope.kind = .function
  fnl : ∀ x, X.fn x = true
  po : N.hot = false → PassesOwn (model X.prog X.w) X.A X.env X.xe
  stk : X.stack = X.env :: X.outer
  frm : X.env.frame = some X.env.locals
theorem Gs.loc (G : Gs X N Γ k W) (x : Str) (m : locB X.env.scope x = true) : Loc X.env.scope x ∧ (X.fn x = true ∨ X.env.scope.names.lookup x = some .local) := ⟨loc_of m, .inl (G.fnl x)⟩
/-- the reading of x = e, whatever the form -/
theorem asg_read {j : Nat} {D : Ends} {σ : St} {H : Hp} (q : tS X.K X.M W (evS Γ (.asg j e)) D σ H) : tD X.K X.M W (evE Γ e) σ H fun v H1 => gName j v σ H1 D.nx := by
  obtain ⟨ρ, I, σT, h, hr, sr, n⟩ := q
  rw [evS] at n
  refine ⟨ρ, I, σT, h, hr, sr, (n.sb sr hr).imp fun r h1 ρ1 I1 H1 x1 r1 n1 v o1 => ?_⟩
  cases z : putR r with
  | none => rw [z] at n1; exact n1.elim
  | some s =>
    rw [z] at n1
    obtain ⟨x2, s2⟩ := put_ok (i := j) x1 r1 (sr.ext hr x1) sr o1 z
    exact n1.nx ρ1 I1 H1 _ x2 r1 s2
theorem s_asg (G : Gs X N Γ k W) {j : Nat} {x : Str} {p : Pos} (hi : X.N[j]? = some x) (hl : locB X.env.scope x = true) (he : PE X pe (tD X.K X.M W (evE Γ e))) (hs : swapsWith pe (some (.Name x p)) pos.line X.env = pure false) :
    PS X (.Assign [.Name x p] pe pos) (tS X.K X.M W (evS Γ (.asg j e))) :=
  PS.imp (ps_set G.nd hi (loc_of hl) he hs (.inl (G.fnl x))) fun D σ H q => asg_read q
theorem s_asgT (G : Gs X N Γ k W) (hh : N.hot = false) {tg : Tg} (hg : mTg X.env.scope X.N tg pg = true) (he : PE X pe (tD X.K X.M W (evE Γ e))) (hs : swapsWithSole [pg] pe pos.line X.env = pure false) (hw : swappedStores [pg] pe X.env = pure none) (h1 : (assignEach [pg] X.env).map (·.2) = [assign pg X.env]) :
    PS X (.Assign [pg] pe pos) (tS X.K X.M W (evS Γ (.asgT tg e))) := by
  refine PS.imp (ps_asg he (s_tg (G.calm hh) G.nd G.loc tg.ixs tg pg hg fun _ z => z) hs hw h1) ?_
  rintro D σ H ⟨ρ, I, σT, h, hr, sr, n⟩
  rw [evS] at n
  refine ⟨ρ, I, σT, h, hr, sr, (n.sb sr hr).imp' fun r h1 ρ1 I1 H1 x1 r1 n0 v o1 => ?_⟩
  cases z : frz r with
  | none => have n1 := n0 ρ1 I1 H1 x1 r1; rw [z] at n1; exact n1.elim
  | some t =>
    obtain ⟨I2, x2, r2, q2⟩ := o1.keep x1 r1 z
    have n1 := n0 ρ1 I2 H1 x2 r2
    rw [z] at n1
    have n2 : NS X.K X.M W ρ I h H σT σ (liftS (asgT tg (tgSee tg h1 t) σT) h1) D := n1
    cases y : asgT tg (tgSee tg h1 t) σT with
    | none => rw [y] at n2; exact n2.elim
    | some σ2 =>
      rw [y] at n2
      exact ⟨ρ1, I2, σT, h1, _, σ2, r2, sr.ext hr x2, .see r2 q2 tg, y, fun σ' s' ew => n2.nx ρ1 I2 H1 σ' (asg_ext y ew x2) r2 s'⟩
theorem s_expr (he : PE X pe (tD X.K X.M W (evE Γ e))) (hs : swapsWith pe none pos.line X.env = pure false) : PS X (.Expr pe pos) (tS X.K X.M W (evS Γ (.expr e))) := by
  refine PS.imp (ps_expr he hs) ?_
  rintro D σ H ⟨ρ, I, σT, h, hr, sr, n⟩
  rw [evS] at n
  exact ⟨ρ, I, σT, h, hr, sr, (n.sb sr hr).imp fun r h1 ρ1 I1 H1 x1 r1 n1 v o1 => n1.nx ρ1 I1 H1 σ (.of x1) r1 (sr.ext hr x1)⟩
theorem s_ret (he : PE X pe (tD X.K X.M W (evE Γ e))) : PS X (.Return (some pe) pos) (tS X.K X.M W (evS Γ (.ret e))) := by
  refine PS.imp (ps_ret he) ?_
  rintro D σ H ⟨ρ, I, σT, h, hr, sr, n⟩
  rw [evS] at n
  refine ⟨ρ, I, σT, h, hr, sr, (n.sb sr hr).imp fun r h1 ρ1 I1 H1 x1 r1 n1 v o1 => ?_⟩
  cases r with
  | v t => exact n1.rt ρ1 I1 H1 σ v (.of x1) r1 (sr.ext hr x1) o1
  | al l =>
    obtain ⟨a, vs, e, n, q⟩ := o1
    exact n1.rt ρ1 I1 H1 σ v (.of x1) r1 (sr.ext hr x1) ⟨a, vs, e, .inl n, q⟩
  | bw j => exact n1.elim
theorem s_retS {j : Nat} {x : Str} {p : Pos} (hi : X.N[j]? = some x) (hv : visB X.env.scope x = true) (hp : plainN x = true) : PS X (.Return (some (.Name x p)) pos) (tS X.K X.M W (evS Γ (.retS j))) := by
  refine PS.imp (ps_ret (pe_var hi (vis_of hv) (plain_dbg hp).1 (plain_dbg hp).2)) ?_
  rintro D σ H ⟨ρ, I, σT, h, hr, sr, n⟩
  rw [evS] at n
  split at n
  · rename_i l e
    obtain ⟨a, vs, q, p, ni, nl, w⟩ := sr.als j l e
    refine ⟨.ref a, q, ?_⟩
    have own : Own σT σ a := ⟨j, l, e, q⟩
    refine n.rt ρ I H (σ.set j none) (.ref a) { (SExt.refl : SExt ρ I h H σT σ ρ I h H σT σ) with onew := fun b ⟨i, m, e1, e2⟩ => ?_ } hr (sr.clr j none) ⟨a, vs, rfl, .inr own, p, ni, nl, w⟩
    rcases get_set e1 with ⟨_, _, z⟩ | ⟨c, z⟩
    · cases z
    · rw [List.getElem?_set_ne c] at e2; exact .inl ⟨i, m, z, e2⟩
  · exact n.elim
theorem s_retN : PS X (.Return none pos) (tS X.K X.M W (evS Γ .retN)) := by
  refine PS.imp ps_retN ?_
  rintro D σ H ⟨ρ, I, σT, h, hr, sr, n⟩
  exact NS.rt n ρ I H σ .non .refl hr sr rfl
theorem s_pass : PS X (.Pass pos) (tS X.K X.M W (evS Γ .pass)) := PS.imp ps_pass fun D σ H ⟨ρ, I, σT, h, hr, sr, n⟩ => NS.nx n ρ I H σ .refl hr sr
theorem s_brk : PS X (.Break pos) (tS X.K X.M W (evS Γ .brk)) := PS.imp ps_break fun D σ H ⟨ρ, I, σT, h, hr, sr, n⟩ => n ρ I H σ .refl hr sr
theorem s_cnt : PS X (.Continue pos) (tS X.K X.M W (evS Γ .cnt)) := PS.imp ps_continue fun D σ H ⟨ρ, I, σT, h, hr, sr, n⟩ => n ρ I H σ .refl hr sr
end
end VY
namespace VY
open PySem PySem.Spec
open PyProof.Rows hiding St
open L2
section
variable {K : PySem.W.Frag} {mg : Mg} {ρ ρ' ρ'' : List Addr} {I I' I'' : Addr → Prop} {h h' h'' : Hs} {H H' H'' H0 : Hp} {σT σT' σT'' : Slots} {σ σ' σ'' : St} {W W' : WX}
theorem NS.seq {o : SO} {k : Slots → Hs → SO} {D : Ends} (n : NS K mg W ρ I h H σT σ (o.seq k) D) : NS K mg W ρ I h H σT σ o { D with nx := tS K mg W k D } := by
  cases o with
  | ok f σ2 h2 =>
    cases f with
    | nx => exact fun ρ1 I1 H1 σ1 x1 r1 s1 => ⟨ρ1, I1, σ2, h2, r1, s1, NS.from (show NS K mg W ρ I h H σT σ (k σ2 h2) D from n) x1⟩
    | brk => exact n
    | ct => exact n
    | ret r => exact n
  | ex y σ2 h2 => exact n
  | bad => exact n
theorem ext_set {n : Nat} {a : Addr} {u u' : HOb} {o : HO} (x : SExt ρ I h H σT σ ρ' I' h' H' σT' σ') (ea : ρ'[n]? = some a) (eh : h'[n]? = some u) (nd : u ≠ .dead) : SExt ρ I h H σT σ ρ' I' (h'.set n u') (upd H' a o) σT' σ' := by
  have la : Live ρ' h' a := ⟨n, u, ea, eh, nd⟩
  have lv : ∀ b, Live ρ' (h'.set n u') b → Live ρ' h' b := fun b ⟨m, w, e1, e2, d⟩ => by
    by_cases c : n = m
    · subst c; rw [ea] at e1; cases e1; exact la
    · rw [List.getElem?_set_ne c] at e2; exact ⟨m, w, e1, e2, d⟩
  refine ⟨x.pre, x.sub, fun b d l w => ?_, fun b d => upd_dom (x.dom b d), x.inew, fun b l => x.lnew b (lv b l), x.onew⟩
  rw [upd_ne (fun z => by subst z; exact (x.lnew b la).elim l fun z => z.elim (not_none d) w)]
  exact x.keep b d l w
theorem sr_set {n : Nat} {a : Addr} {u u' : HOb} {o : HO} (s : SR K mg ρ I h H σT σ) (r : HR K mg ρ I h H) (ea : ρ[n]? = some a) (eh : h[n]? = some u) (nd : u ≠ .dead) : SR K mg ρ I (h.set n u') (upd H a o) σT σ := by
  have la : Live ρ h a := ⟨n, u, ea, eh, nd⟩
  have kp : Kp ρ I H ρ I (upd H a o) := kp_at o (r.dis a la)
  have lv : ∀ b, Live ρ (h.set n u') b → Live ρ h b := fun b ⟨m, w, e1, e2, d⟩ => by
    by_cases c : n = m
    · subst c; rw [ea] at e1; cases e1; exact la
    · rw [List.getElem?_set_ne c] at e2; exact ⟨m, w, e1, e2, d⟩
  refine ⟨s.len, fun i t e => let ⟨v, q, p⟩ := s.vs i t e; ⟨v, q, p.mono kp⟩, fun i l e => ?_, s.adj⟩
  obtain ⟨b, vs, q, p, ni, nl, w⟩ := s.als i l e
  exact ⟨b, vs, q, (upd_ne fun z => by subst z; exact nl la).trans p, ni, fun z => nl (lv b z), w.mono kp⟩
/-- a slot's own list is another one -/
theorem own_upd {i : Nat} {l l' : List T} {a : Addr} {vs : List V} (x : SExt ρ I h H σT σ ρ' I' h' H' σT' σ') (s : SR K mg ρ' I' h' H' σT' σ') (r : HR K mg ρ' I' h' H') (e : σT'[i]? = some (some (.al l))) (ea : σ'[i]? = some (some (.ref a)))
    (w : Reps K mg ρ' I' H' vs l') : SExt ρ I h H σT σ ρ' I' h' (upd H' a (.lst vs)) (σT'.set i (some (.al l'))) σ' ∧ HR K mg ρ' I' h' (upd H' a (.lst vs)) ∧ SR K mg ρ' I' h' (upd H' a (.lst vs)) (σT'.set i (some (.al l'))) σ' := by
  have oa : Own σT' σ' a := ⟨i, l, e, ea⟩
  obtain ⟨d, ni, nl⟩ := s.own oa
  have kp : Kp ρ' I' H' ρ' I' (upd H' a (.lst vs)) := kp_at _ ni
  have same : ∀ b, Own (σT'.set i (some (.al l'))) σ' b → Own σT' σ' b := fun b ⟨j, m, e1, e2⟩ => by
    rcases get_set e1 with ⟨c, _, _⟩ | ⟨c, z⟩
    · subst c; exact ⟨i, l, e, e2⟩
    · exact ⟨j, m, z, e2⟩
  refine ⟨⟨x.pre, x.sub, fun b db l w => ?_, fun b db => upd_dom (x.dom b db), x.inew, x.lnew, fun b o => x.onew b (same b o)⟩, hr_at _ r ni nl, ?_⟩
  · rw [upd_ne (fun z => by subst z; exact (x.onew b oa).elim w (not_none db))]
    exact x.keep b db l w
  · refine ⟨by rw [List.length_set]; exact s.len, fun j t z => ?_, fun j m z => ?_, fun j j' m m' b e1 e2 e3 e4 => ?_⟩
    · rcases get_set z with ⟨_, _, c⟩ | ⟨c, z⟩
      · cases c
      · obtain ⟨v, q, p⟩ := s.vs j t z; exact ⟨v, q, p.mono kp⟩
    · rcases get_set z with ⟨c, _, y⟩ | ⟨c, z⟩
      · subst c
        cases y
        exact ⟨a, vs, ea, upd_same, ni, nl, w.mono kp⟩
      · obtain ⟨b, ws, q, p, ni', nl', w'⟩ := s.als j m z
        refine ⟨b, ws, q, (upd_ne fun y => ?_).trans p, ni', nl', w'.mono kp⟩
        subst y
        exact c (s.adj i j l m b e z ea q)
    · have f : ∀ {j : Nat} {m : List T}, (σT'.set i (some (.al l')))[j]? = some (some (.al m)) → ∃ m', σT'[j]? = some (some (.al m')) := fun {j m} z => by
        rcases get_set z with ⟨c, _, _⟩ | ⟨c, z⟩
        · subst c; exact ⟨l, e⟩
        · exact ⟨m, z⟩
      obtain ⟨_, f1⟩ := f e1
      obtain ⟨_, f2⟩ := f e2
      exact s.adj j j' _ _ b f1 f2 e3 e4
end
section
variable {X : Cx} {N : Nms} {Γ : Ctx} {k : Nat} {W : WX} {e o i : E} {pe po pi pg : Expr} {pos : Pos}
theorem s_ss0 : PSs X [] (tS X.K X.M W (evSs Γ [])) := PSs.imp pss_nil fun D σ H ⟨ρ, I, σT, h, hr, sr, n⟩ => NS.nx n ρ I H σ .refl hr sr
theorem s_ss1 {s : S} {ss : List S} {ps : Stmt} {pss : List Stmt} (h1 : PS X ps (tS X.K X.M W (evS Γ s))) (h2 : PSs X pss (tS X.K X.M W (evSs Γ ss))) : PSs X (ps :: pss) (tS X.K X.M W (evSs Γ (s :: ss))) := by
  refine PSs.imp (pss_cons h1 h2) ?_
  rintro D σ H ⟨ρ, I, σT, h, hr, sr, n⟩
  rw [evSs] at n
  exact ⟨ρ, I, σT, h, hr, sr, n.seq⟩
/-- a slot's list is kept as a value from now on -/
theorem s_fz {j : Nat} {ss : List S} {pss : List Stmt} (h2 : PSs X pss (tS X.K X.M W (evSs Γ ss))) : PSs X pss (tS X.K X.M W (evSs Γ (.fz j :: ss))) := by
  refine PSs.imp h2 ?_
  rintro D σ H ⟨ρ, I, σT, h, hr, sr, n⟩
  rw [evSs, evS] at n
  split at n
  · rename_i l e
    obtain ⟨a, vs, q, p, ni, nl, w⟩ := sr.als j l e
    have oa : Own σT σ a := ⟨j, l, e, q⟩
    have x : SExt ρ I h H σT σ ρ (Iw I a) h H (σT.set j (some (.v (.lst l)))) σ := by
      refine ⟨fun _ _ e => e, fun _ e => .inl e, fun _ _ _ _ => rfl, fun _ e => e, fun b i => i.elim .inl fun z => .inr (.inr (.inr (z ▸ oa))), fun b l => .inl l, fun b ⟨i, m, e1, e2⟩ => ?_⟩
      rcases get_set e1 with ⟨_, _, z⟩ | ⟨c, z⟩
      · cases z
      · exact .inl ⟨i, m, z, e2⟩
    refine ⟨ρ, Iw I a, σT.set j (some (.v (.lst l))), h, hr.hold nl (isSome_of p), ?_, n.from x⟩
    refine ⟨by rw [List.length_set]; exact sr.len, fun i t z => ?_, fun i m z => ?_, fun i i' m m' b e1 e2 e3 e4 => ?_⟩
    · rcases get_set z with ⟨c, _, y⟩ | ⟨c, z⟩
      · subst c
        cases y
        exact ⟨.ref a, q, a, vs, rfl, .inr rfl, p, w.mono kp_hold⟩
      · obtain ⟨v, q, p⟩ := sr.vs i t z; exact ⟨v, q, p.mono kp_hold⟩
    · rcases get_set z with ⟨_, _, y⟩ | ⟨c, z⟩
      · cases y
      · obtain ⟨b, ws, q', p', ni', nl', w'⟩ := sr.als i m z
        refine ⟨b, ws, q', p', fun y => y.elim ni' fun y => ?_, nl', w'.mono kp_hold⟩
        subst y
        exact c (sr.adj j i l m b e z q q')
    · rcases get_set e1 with ⟨_, _, z⟩ | ⟨c, z⟩
      · cases z
      · rcases get_set e2 with ⟨_, _, z'⟩ | ⟨c', z'⟩
        · cases z'
        · exact sr.adj i i' m m' b z z' e3 e4
  · exact n.elim
theorem s_pr {j : Nat} {ss : List S} {pss : List Stmt} (h2 : PSs X pss (tS X.K X.M W (evSs Γ ss))) : PSs X pss (tS X.K X.M W (evSs Γ (.pr j :: ss))) := by
  refine PSs.imp h2 ?_
  rintro D σ H ⟨ρ, I, σT, h, hr, sr, n⟩
  rw [evSs, evS] at n
  split at n
  · rename_i l e
    obtain ⟨a, vs, q, p, ni, nl, w⟩ := sr.als j l e
    have oa : Own σT σ a := ⟨j, l, e, q⟩
    obtain ⟨hr2, lv⟩ := hr_push hr (u := .lst l) ⟨vs, p, w⟩ ni nl
    have kp : Kp ρ I H (ρ ++ [a]) I H := ⟨fun n b e => by rw [List.getElem?_append_left (List.getElem?_eq_some_iff.mp e).1]; exact e, fun _ e => e, fun _ _ => rfl⟩
    have x : SExt ρ I h H σT σ (ρ ++ [a]) I (h ++ [.lst l]) H (σT.set j (some (.v (.ref h.length)))) σ := by
      refine ⟨kp.pre, fun _ e => e, fun _ _ _ _ => rfl, fun _ e => e, fun b i => .inl i, fun b l => ?_, fun b ⟨i, m, e1, e2⟩ => ?_⟩
      · exact (lv b l).elim .inl fun z => .inr (.inr (by rw [z]; exact oa))
      · rcases get_set e1 with ⟨_, _, z⟩ | ⟨c, z⟩
        · cases z
        · exact .inl ⟨i, m, z, e2⟩
    refine ⟨ρ ++ [a], I, σT.set j (some (.v (.ref h.length))), h ++ [.lst l], hr2, ?_, n.from x⟩
    refine ⟨by rw [List.length_set]; exact sr.len, fun i t z => ?_, fun i m z => ?_, fun i i' m m' b e1 e2 e3 e4 => ?_⟩
    · rcases get_set z with ⟨c, _, y⟩ | ⟨c, z⟩
      · subst c
        cases y
        exact ⟨.ref a, q, a, rfl, by rw [← hr.len, List.getElem?_append_right (Nat.le_refl _), Nat.sub_self]; rfl⟩
      · obtain ⟨v, q, p⟩ := sr.vs i t z; exact ⟨v, q, p.mono kp⟩
    · rcases get_set z with ⟨_, _, y⟩ | ⟨c, z⟩
      · cases y
      · obtain ⟨b, ws, q', p', ni', nl', w'⟩ := sr.als i m z
        refine ⟨b, ws, q', p', ni', fun y => (lv b y).elim nl' fun y => ?_, w'.mono kp⟩
        subst y
        exact c (sr.adj j i l m b e z q q')
    · rcases get_set e1 with ⟨_, _, z⟩ | ⟨c, z⟩
      · cases z
      · rcases get_set e2 with ⟨_, _, z'⟩ | ⟨c', z'⟩
        · cases z'
        · exact sr.adj i i' m m' b z z' e3 e4
  · exact n.elim
theorem s_ifS {c : C} {a b : List S} {pc : Expr} {pa pb : List Stmt} (hc : PT X pc (tB X.K X.M W (evC Γ c))) (ha : PSs X pa (tS X.K X.M W (evSs Γ a))) (hb : PSs X pb (tS X.K X.M W (evSs Γ b))) : PS X (.If pc pa pb pos) (tS X.K X.M W (evS Γ (.ife c a b))) := by
  refine PS.imp (ps_if hc ha hb) ?_
  rintro D σ H ⟨ρ, I, σT, h, hr, sr, n⟩
  rw [evS] at n
  refine ⟨ρ, I, σT, h, hr, sr, (n.sb sr hr).imp fun k h1 ρ1 I1 H1 x1 r1 n1 => ?_⟩
  cases k with
  | true => exact ⟨ρ1, I1, σT, h1, r1, sr.ext hr x1, n1.from (.of x1)⟩
  | false => exact ⟨ρ1, I1, σT, h1, r1, sr.ext hr x1, n1.from (.of x1)⟩
/-- a loop's turn: its outcome in the loop's -/
theorem turn_ns {K : PySem.W.Frag} {mg : Mg} {ρ ρ' : List Addr} {I I' : Addr → Prop} {h h' : Hs} {H H' : Hp} {σT σT' : Slots} {σ σ' : St} {o : SO} {k : Slots → Hs → SO} {D : Ends} {Nn : St → Hp → Prop}
    (n : NS K mg W ρ I h H σT σ (o.turn k) D) (x : SExt ρ I h H σT σ ρ' I' h' H' σT' σ')
    (f : ∀ σ3 h3 ρ3 I3 H3 σ3', SExt ρ I h H σT σ ρ3 I3 h3 H3 σ3 σ3' → HR K mg ρ3 I3 h3 H3 → SR K mg ρ3 I3 h3 H3 σ3 σ3' → NS K mg W ρ I h H σT σ (k σ3 h3) D → Nn σ3' H3) :
    NS K mg W ρ' I' h' H' σT' σ' o { D with nx := Nn, ct := Nn, bk := D.nx } := by
  cases o with
  | ok fl σ2 h2 =>
    intro ρ3 I3 H3 σ3 x3 r3 s3
    cases fl with
    | nx => exact f σ2 h2 ρ3 I3 H3 σ3 (x.trans x3) r3 s3 n
    | ct => exact f σ2 h2 ρ3 I3 H3 σ3 (x.trans x3) r3 s3 n
    | brk => exact NS.nx (show NS K mg W ρ I h H σT σ (.ok .nx σ2 h2) D from n) ρ3 I3 H3 σ3 (x.trans x3) r3 s3
    | ret r => exact fun v q => NS.rt (show NS K mg W ρ I h H σT σ (.ok (.ret r) σ2 h2) D from n) ρ3 I3 H3 σ3 v (x.trans x3) r3 s3 (q.back x)
  | ex y σ2 h2 => exact NS.from (show NS K mg W ρ I h H σT σ (.ex y σ2 h2) { D with nx := Nn, ct := Nn, bk := D.nx } from n) x
  | bad => exact n
/-- a walk's step: the object walked is as it was -/
theorem gd_for {K : PySem.W.Frag} {mg : Mg} {ρ : List Addr} {I : Addr → Prop} {h hc : Hs} {H : Hp} {σT : Slots} {σ : St} {g : Option (Nat × HOb)} {o : SO} {D : Ends} (n : NS K mg W ρ I h H σT σ (if gdB g hc then o else .bad) D) : gdB g hc = true ∧ NS K mg W ρ I h H σT σ o D := by
  cases z : gdB g hc with
  | true => rw [z] at n; exact ⟨rfl, n⟩
  | false => rw [z] at n; exact n.elim
theorem s_for (G : Gs X N Γ k W) (hh : N.hot = false) {tg : Tg} {it : It} {body : List S} {pb : List Stmt} (hg : mTg X.env.scope X.N tg pg = true) (hi : PI X pg pi (tIt X.K X.M W false (evIt Γ false it))) (hs : notSet pi = true) (hb : PSs X pb (tS X.K X.M W (evSs Γ body))) :
    PS X (.For pg pi pb [] pos) (tS X.K X.M W (evS Γ (.for tg it body))) := by
  refine PS.imp (ps_for (G.po hh) (G.calm hh) hi (s_tg (G.calm hh) G.nd G.loc tg.ixs tg pg hg fun _ z => z) hb (not_folded hs)) ?_
  rintro D σ H ⟨ρ, I, σT, h, hr, sr, n⟩
  rw [evS] at n
  refine ⟨ρ, I, σT, h, hr, sr, (n.sb sr hr).imp fun p h1 ρ1 I1 H1 x1 r1 n0 J C st wk => ?_⟩
  obtain ⟨ts, gd⟩ := p
  have s1 := sr.ext hr x1
  have n1 := n0.from (.of x1)
  have st' : ∀ ρ2 I2 h2 H2, Kp ρ1 I1 H1 ρ2 I2 H2 → HR X.K X.M ρ2 I2 h2 H2 → gdB gd h2 = true → C ρ2 I2 h2 H2 := by unfold Stay at st; rw [if_neg (by decide)] at st; exact st
  refine ⟨fun i m σc Hc => m = ts.length - i ∧ i ≤ ts.length ∧ ∃ ρc Ic hc σTc, SExt ρ1 I1 h1 H1 σT σ ρc Ic hc Hc σTc σc ∧ HR X.K X.M ρc Ic hc Hc ∧ SR X.K X.M ρc Ic hc Hc σTc σc ∧
    NS X.K X.M W ρ1 I1 h1 H1 σT σ (forL (fun x σ' h' => (liftS (asgT tg x σ') h').seq (evSs Γ body)) gd (ts.drop i) σTc hc) D, ⟨ts.length, by omega, Nat.zero_le _, ρ1, I1, h1, σT, .refl, r1, s1, n1⟩, ?_⟩
  rintro i m σc Hc ⟨rfl, hi', ρc, Ic, hc, σTc, xc, rc, sc, nc⟩
  have cC : gdB gd hc = true → C ρc Ic hc Hc := st' ρc Ic hc Hc (xc.kp r1 s1) rc
  by_cases hlt : i < ts.length
  · rw [List.drop_eq_getElem_cons hlt] at nc
    obtain ⟨gg, nc⟩ := gd_for nc
    have nc : NS X.K X.M W ρ1 I1 h1 H1 σT σ (((liftS (asgT tg ts[i] σTc) hc).seq (evSs Γ body)).turn (forL (fun x σ' h' => (liftS (asgT tg x σ') h').seq (evSs Γ body)) gd (ts.drop (i + 1)))) D := nc
    refine .inr ⟨wk.go i ρc Ic hc Hc hlt (cC gg), fun σ3 H3 => ∃ ρc Ic hc σTc, SExt ρ1 I1 h1 H1 σT σ ρc Ic hc H3 σTc σ3 ∧ HR X.K X.M ρc Ic hc H3 ∧ SR X.K X.M ρc Ic hc H3 σTc σ3 ∧
      NS X.K X.M W ρ1 I1 h1 H1 σT σ (forL (fun x σ' h' => (liftS (asgT tg x σ') h').seq (evSs Γ body)) gd (ts.drop (i + 1)) σTc hc) D, fun σ3 H3 z => ⟨ts.length - (i + 1), by omega, rfl, hlt, z⟩, ?_⟩
    intro x H' y
    obtain ⟨I2, t, xy, ry, et, rt⟩ := wk.yld i x ρc Ic hc Hc H' rc (cC gg) hlt y
    have et' : ts[i] = t := by rw [List.getElem?_eq_getElem hlt] at et; exact Option.some.inj et
    rw [et'] at nc
    have sy := sc.ext rc xy
    cases z : asgT tg t σTc with
    | none => rw [z] at nc; exact nc.elim
    | some σ2 =>
      rw [z] at nc
      refine ⟨ρc, I2, σTc, hc, t, σ2, ry, sy, PkG.of rt tg, z, fun σ' s' ew => ⟨ρc, I2, σ2, hc, ry, s', ?_⟩⟩
      have xa := (xc.trans (.of xy)).trans (asg_ext (ρ := ρc) (I := I2) (h := hc) (H := H') z ew .refl)
      exact turn_ns (o := evSs Γ body σ2 hc) nc xa fun σ3 h3 ρ3 I3 H3 σ3' x3 r3 s3 n3 => ⟨ρ3, I3, h3, σ3, x3, r3, s3, n3⟩
  · have e : i = ts.length := by omega
    subst e
    rw [List.drop_length] at nc
    obtain ⟨gg, nc⟩ := gd_for nc
    exact .inl ⟨wk.stop ρc Ic hc Hc (cC gg), NS.nx nc ρc Ic Hc σc xc rc sc⟩
theorem s_whl (G : Gs X N Γ k W) (hh : N.hot = false) {c : C} {body : List S} {pc : Expr} {pb : List Stmt} (hc : PT X pc (tB X.K X.M W (evC Γ c))) (hb : PSs X pb (tS X.K X.M W (evSs Γ body))) : PS X (.While pc pb [] pos) (tS X.K X.M W (evS Γ (.whl c body))) := by
  refine PS.imp (ps_while (G.po hh) hc hb) ?_
  rintro D σ H ⟨ρ, I, σT, h, hr, sr, n⟩
  rw [evS] at n
  refine ⟨fun m σc Hc => ∃ ρc Ic hc σTc, SExt ρ I h H σT σ ρc Ic hc Hc σTc σc ∧ HR X.K X.M ρc Ic hc Hc ∧ SR X.K X.M ρc Ic hc Hc σTc σc ∧ NS X.K X.M W ρ I h H σT σ (whlL (evC Γ c) (evSs Γ body) m σTc hc) D, ⟨whlMost, ρ, I, h, σT, .refl, hr, sr, n⟩, ?_⟩
  rintro m σc Hc ⟨ρc, Ic, hc', σTc, xc, rc, sc, nc⟩
  cases m with
  | zero => exact nc.elim
  | succ m =>
    have nc' : NS X.K X.M W ρ I h H σT σ (sb σTc (evC Γ c σTc hc') fun b h1 => if b then (evSs Γ body σTc h1).turn (whlL (evC Γ c) (evSs Γ body) m) else .ok .nx σTc h1) D := nc
    refine ⟨ρc, Ic, σTc, hc', rc, sc, (nc'.sb' xc sc rc).imp fun b h1 ρ1 I1 H1 x1 r1 n1 => ?_⟩
    have s1 := sc.ext rc x1
    cases b with
    | false => exact NS.nx n1 ρ1 I1 H1 σc (xc.trans (.of x1)) r1 s1
    | true =>
      refine ⟨fun σ3 H3 => ∃ ρc Ic hc σTc, SExt ρ I h H σT σ ρc Ic hc H3 σTc σ3 ∧ HR X.K X.M ρc Ic hc H3 ∧ SR X.K X.M ρc Ic hc H3 σTc σ3 ∧ NS X.K X.M W ρ I h H σT σ (whlL (evC Γ c) (evSs Γ body) m σTc hc) D, fun σ3 H3 z => ⟨m, Nat.lt_succ_self m, z⟩, ρ1, I1, σTc, h1, r1, s1, ?_⟩
      exact turn_ns (o := evSs Γ body σTc h1) n1 (xc.trans (.of x1)) fun σ3 h3 ρ3 I3 H3 σ3' x3 r3 s3 n3 => ⟨ρ3, I3, h3, σ3, x3, r3, s3, n3⟩
end
end VY
namespace VY
open PySem PySem.Spec
open PyProof.Rows hiding St
open L2
theorem setL_inv {r x y : R} {h h4 : Hs} (e : setL r x y h = some h4) : ∃ t n u, frz r = some t ∧ x = .v (.ref n) ∧ y = .v u ∧
    ((∃ k l j, u = .int k ∧ h[n]? = some (.lst l) ∧ ixN l.length k = some j ∧ h4 = h.set n (.lst (l.set j t))) ∨
      ∃ l k, h[n]? = some (.dct l) ∧ keyT u = some k ∧ l.length < SL ∧ h4 = h.set n (.dct (putT l k t))) := by
  unfold setL at e
  cases f : frz r with
  | none => rw [f] at e; simp at e
  | some t =>
    rw [f] at e
    cases x with
    | al _ => simp at e
    | bw _ => simp at e
    | v x =>
      cases x <;> try (simp at e; done)
      rename_i n
      cases y with
      | al _ => simp at e
      | bw _ => simp at e
      | v y =>
        simp only [] at e
        refine ⟨t, n, y, rfl, rfl, rfl, ?_⟩
        split at e
        · rename_i l k e2
          cases ej : ixN l.length k with
          | none => rw [ej] at e; cases e
          | some j => rw [ej] at e; cases e; exact .inl ⟨k, l, j, rfl, e2, ej, rfl⟩
        · rename_i _ l e2
          obtain ⟨kk, ek, e⟩ := Option.bind_eq_some_iff.mp e
          split at e
          · cases e
            exact .inr ⟨l, kk, e2, ek, by assumption, rfl⟩
          · cases e
        · cases e
section
variable {X : Cx} {N : Nms} {Γ : Ctx} {k : Nat} {W : WX} {e o i a b c : E} {pe po pi pg pa pb pc : Expr} {pos : Pos}
/-- a store by place or by key -/
theorem set_any (hu : X.A.units + 1 < cLine) : PSet X (fun x y v H Q => rSetL x y v H Q ∨ ∃ (a : Addr) (kvs : List (Key × V)) (kk : Key) (z : V), x = .ref a ∧ y = kV kk ∧ H a = some (.dK kvs) ∧ kvs.length < sizeLine ∧ Q (upd H a (.dK (putK kvs kk v)))) := by
  intro pins s σ H o i v ov iv u Q I ro ri rv hh
  rcases hh with hh | ⟨a, kvs, kk, _, rfl, rfl, e, hl, q⟩
  · exact set_list pins s σ H o i v ov iv u Q I ro ri rv hh
  · cases ro
    exact d_setItem hu I (DPut.k e hl) ri rv fun s' I' => ⟨_, I', q⟩
theorem s_setIx (G : Gs X N Γ k W) (he : PE X pe (tD X.K X.M W (evE Γ e))) (ho : PE X po (tD X.K X.M W (evE Γ o))) (hi : PE X pi (tD X.K X.M W (evE Γ i))) {p : Pos} (hn : notSlice pi = true) (hs : swapsWithSole [.Subscript po pi p] pe pos.line X.env = pure false) :
    PS X (.Assign [.Subscript po pi p] pe pos) (tS X.K X.M W (evS Γ (.setIx o i e))) := by
  refine PS.imp (ps_asg he (pg_sub ho hi (set_any (by have := G.hu; omega)) (by intro v; cases pi <;> first | rfl | cases hn)) hs rfl rfl) ?_
  rintro D σ H ⟨ρ, I, σT, h, hr, sr, n⟩
  rw [evS] at n
  refine ⟨ρ, I, σT, h, hr, sr, (n.sb sr hr).imp' fun r h1 ρ1 I1 H1 x1 r1 n0 v o1 => ?_⟩
  cases z : frz r with
  | none =>
    -- nothing to store: the places are still looked at
    have n1 := n0 ρ1 I1 H1 x1 r1
    have s1 := sr.ext hr x1
    refine ⟨ρ1, I1, σT, h1, r1, s1, (n1.sb' (.of x1) s1 r1).imp fun x h2 ρ2 I2 H2 x2 r2 n2 u o2 => ?_⟩
    refine ⟨ρ2, I2, σT, h2, r2, s1.ext r1 x2, (n2.sb' (.of (x1.trans x2)) (s1.ext r1 x2) r2).imp fun y h3 ρ3 I3 H3 x3 r3 n3 w o3 => ?_⟩
    unfold setL at n3
    rw [z] at n3
    exact n3.elim
  | some t =>
    obtain ⟨J1, y1, q1, rp⟩ := o1.keep x1 r1 z
    have n1 := n0 ρ1 J1 H1 y1 q1
    have s1 := sr.ext hr y1
    refine ⟨ρ1, J1, σT, h1, q1, s1, (n1.sb' (.of y1) s1 q1).imp fun x h2 ρ2 I2 H2 x2 r2 n2 u o2 => ?_⟩
    have s2 := s1.ext q1 x2
    refine ⟨ρ2, I2, σT, h2, r2, s2, (n2.sb' (.of (y1.trans x2)) s2 r2).imp fun y h3 ρ3 I3 H3 x3 r3 n3 w o3 => ?_⟩
    have s3 := s2.ext r2 x3
    have xx := (y1.trans x2).trans x3
    have rp3 := (rp.mono (x2.kp q1)).mono (x3.kp r2)
    cases el : setL r x y h3 with
    | none => rw [el] at n3; exact n3.elim
    | some h4 =>
      rw [el] at n3
      obtain ⟨t', m, ku, e1, e2, e3, ⟨kk, l, j, e0, e4, ej, e5⟩ | ⟨l, kk, e4, ek, ez, e5⟩⟩ := setL_inv el
      · rw [z] at e1
        cases e1
        subst e2 e3 e5 e0
        obtain ⟨a, rfl, ea⟩ := (show ∃ a, u = .ref a ∧ ρ3[m]? = some a from (RO.ext o2 r2 x3))
        cases (show w = .int kk from o3)
        obtain ⟨vs, p, wv⟩ := r3.obj m _ a e4 ea
        have nd : HOb.lst l ≠ .dead := fun z => by cases z
        have nd' : HOb.lst (l.set j t) ≠ .dead := fun z => by cases z
        refine .inl ⟨a, vs, kk, j, rfl, rfl, p, by rw [wv.length]; exact ej, ?_⟩
        refine n3.nx ρ3 I3 _ σ (ext_set (.of xx) ea e4 nd) (hr_set r3 ea e4 nd nd' fun H' kp up => ⟨_, up, Reps.mono ⟨fun _ _ e => e, fun _ e => e, kp⟩ (Reps.set rp3 j wv)⟩) (sr_set s3 r3 ea e4 nd)
      · rw [z] at e1
        cases e1
        subst e2 e3 e5
        obtain ⟨a, rfl, ea⟩ := (show ∃ a, u = .ref a ∧ ρ3[m]? = some a from (RO.ext o2 r2 x3))
        obtain ⟨vs, p, wv⟩ := r3.obj m _ a e4 ea
        have nd : HOb.dct l ≠ .dead := fun z => by cases z
        have nd' : HOb.dct (putT l kk t) ≠ .dead := fun z => by cases z
        refine .inr ⟨a, vs, kk, v, rfl, keyT_kV o3 ek, p, by rw [wv.len, sizeLine_eq]; exact ez, ?_⟩
        refine n3.nx ρ3 I3 _ σ (ext_set (.of xx) ea e4 nd) (hr_set r3 ea e4 nd nd' fun H' kp up => ⟨_, up, RepD.mono ⟨fun _ _ e => e, fun _ e => e, kp⟩ (RepD.put kk rp3 wv)⟩) (sr_set s3 r3 ea e4 nd)
/-- x.append(e) -/
theorem s_app {j : Nat} {x : Str} {p ap cp : Pos} (hi : X.N[j]? = some x) (hv : visB X.env.scope x = true) (hp : plainN x = true) (hb : notStar pb = true) (he : PE X pb (tD X.K X.M W (evE Γ b))) (hl : (ap.endLine == cp.line) = true) :
    PS X (.Expr (.Call (.Attribute (.Name x p) "append" ap) [pb] [] cp) pos) (tS X.K X.M W (evS Γ (.app j b))) := by
  have se : starEach [pb] X.env = (false, eval pb X.env) :: starEach [] X.env := star_eq hb
  refine PS.imp (ps_expr (pe_bm PySem.F.plainAttrs_list PySem.F.slot_list_append PySem.F.type_list_append mt_append (pe_var hi (vis_of hv) (plain_dbg hp).1 (plain_dbg hp).2) (pa_cons he pa_nil se) rfl (by rw [se]; rfl) hl se rfl) rfl) ?_
  rintro D σ H ⟨ρ, I, σT, h, hr, sr, n⟩
  rw [evS] at n
  cases ao : appOk h σT[j]? with
  | false => rw [ao] at n; exact n.elim
  | true =>
    rw [ao] at n
    have n : NS X.K X.M W ρ I h H σT σ (sb σT (evE Γ b σT h) fun r h1 => appS σT j r h1) D := n
    have n' := n.sb sr hr
    unfold appOk at ao
    split at ao
    · rename_i l ej
      obtain ⟨a, vs, q, p, ni, nl, w⟩ := sr.als j l ej
      refine ⟨.ref a, q, .inl ⟨rfl, vs, .inl (.inl p)⟩, ρ, I, σT, h, hr, sr, n'.imp' fun r h1 ρ1 I1 H1 x1 r1 n0 v o1 => ?_⟩
      cases z : frz r with
      | none => have n1 := n0 ρ1 I1 H1 x1 r1; unfold appS at n1; rw [z] at n1; exact n1.elim
      | some t =>
        obtain ⟨J, y1, q1, rp⟩ := o1.keep x1 r1 z
        have n1 := n0 ρ1 J H1 y1 q1
        have s1 := sr.ext hr y1
        obtain ⟨a', vs', q', p', ni', nl', w'⟩ := s1.als j l ej
        rw [q] at q'
        cases q'
        unfold appS at n1
        rw [z, ej] at n1
        simp only [] at n1
        split at n1
        · rename_i hz
          obtain ⟨x2, r2, s2⟩ := own_upd (.of y1) s1 q1 ej q (w'.append (ws := [v]) (m := [t]) ⟨rp, trivial⟩)
          exact ⟨a, vs', v, rfl, rfl, p', by rw [w'.length, sizeLine_eq]; exact hz, n1.nx ρ1 J _ σ x2 r2 s2⟩
        · exact n1.elim
    · rename_i m ej
      obtain ⟨v0, q, a, rfl, ea⟩ := sr.vs j _ ej
      split at ao
      · rename_i l eh
        obtain ⟨vs, p, w⟩ := hr.obj m _ a eh ea
        refine ⟨.ref a, q, .inl ⟨rfl, vs, .inl (.inl p)⟩, ρ, I, σT, h, hr, sr, n'.imp' fun r h1 ρ1 I1 H1 x1 r1 n0 v o1 => ?_⟩
        cases z : frz r with
        | none => have n1 := n0 ρ1 I1 H1 x1 r1; unfold appS at n1; rw [z] at n1; exact n1.elim
        | some t =>
          obtain ⟨J, y1, q1, rp⟩ := o1.keep x1 r1 z
          have n1 := n0 ρ1 J H1 y1 q1
          have s1 := sr.ext hr y1
          have ea1 := y1.pre _ _ ea
          unfold appS at n1
          rw [z, ej] at n1
          simp only [] at n1
          split at n1
          · rename_i l' eh'
            split at n1
            · rename_i hz
              obtain ⟨vs', p', w'⟩ := q1.obj m _ a eh' ea1
              have nd : HOb.lst l' ≠ .dead := fun z => by cases z
              have nd' : HOb.lst (l' ++ [t]) ≠ .dead := fun z => by cases z
              refine ⟨a, vs', v, rfl, rfl, p', by rw [w'.length, sizeLine_eq]; exact hz, ?_⟩
              exact n1.nx ρ1 J _ σ (ext_set (.of y1) ea1 eh' nd) (hr_set q1 ea1 eh' nd nd' fun H' kp up => ⟨_, up, Reps.mono ⟨fun _ _ e => e, fun _ e => e, kp⟩ (w'.append (ws := [v]) (m := [t]) ⟨rp, trivial⟩)⟩) (sr_set s1 q1 ea1 eh' nd)
            · exact n1.elim
          · exact n1.elim
      · cases ao
    · cases ao
theorem PIp.or {X : Cx} {op : Operator} {t t' : TIp} (p : PIp X op t) (q : PIp X op t') : PIp X op fun x y H Q => t x y H Q ∨ t' x y H Q :=
  fun pins s σ H x y v u Q I rx ry h => h.elim (p pins s σ H x y v u Q I rx ry) (q pins s σ H x y v u Q I rx ry)
theorem PIp.imp {X : Cx} {op : Operator} {t t' : TIp} (p : PIp X op t) (f : ∀ x y H Q, t' x y H Q → t x y H Q) : PIp X op t' := fun pins s σ H x y v u Q I rx ry h => p pins s σ H x y v u Q I rx ry (f x y H Q h)
theorem ip_mul : PIp X .Mult (fun x y H Q => ∃ i j, x = .int i ∧ y = .int j ∧ mulOk i j = true ∧ Q (.int (i * j)) H) := by
  rintro pins s σ H x y v u Q I rx ry ⟨i, j, rfl, rfl, c, q⟩
  obtain ⟨t, rfl⟩ := rx
  obtain ⟨t', rfl⟩ := ry
  exact imul_int ⟨.int _, H, I.tok _, ⟨_, rfl⟩, q⟩ (mulOk_ok c)
theorem s_aug (G : Gs X N Γ k W) {j : Nat} {x : Str} {p : Pos} {op : Operator} (hi : X.N[j]? = some x) (hl : locB X.env.scope x = true) (he : PE X pe (tD X.K X.M W (evE Γ e))) :
    PS X (.AugAssign (.Name x p) op pe pos) (tS X.K X.M W (evS Γ (.aug j op e))) := by
  have fin : ∀ (ti : TIp), (∀ t u z v w H Q, augT op t u = some z → (∀ ρ I H, Rep X.K X.M ρ I H v t) → (∀ ρ I H, Rep X.K X.M ρ I H w u) → (∀ y, (∀ ρ I H, Rep X.K X.M ρ I H y z) → Q y H) → ti v w H Q) → ∀ D σ H, tS X.K X.M W (evS Γ (.aug j op e)) D σ H → tAug j (tD X.K X.M W (evE Γ e)) ti D σ H := by
    rintro ti hti D σ H ⟨ρ, I, σT, h, hr, sr, n⟩
    rw [evS] at n
    split at n
    · rename_i t ej
      obtain ⟨v, ev, rv⟩ := sr.vs j t ej
      refine ⟨v, ev, ρ, I, σT, h, hr, sr, (n.sb sr hr).imp fun r h1 ρ1 I1 H1 x1 r1 n1 w o1 => ?_⟩
      unfold augS at n1
      split at n1
      · rename_i u
        cases z : augT op t u with
        | none => rw [z] at n1; exact n1.elim
        | some y =>
          rw [z] at n1
          have flat : ∀ {t : T}, (∃ i, t = .int i) ∨ (∃ s, t = .str s) → ∀ {v : V} {ρ I H}, Rep X.K X.M ρ I H v t → ∀ ρ I H, Rep X.K X.M ρ I H v t := by
            rintro t (⟨i, rfl⟩ | ⟨s, rfl⟩) v ρ I H q ρ' I' H' <;> exact q
          have kinds : ((∃ i, t = .int i) ∨ ∃ s, t = .str s) ∧ ((∃ i, u = .int i) ∨ ∃ s, u = .str s) := by
            unfold augT at z
            split at z <;> first | exact ⟨.inl ⟨_, rfl⟩, .inl ⟨_, rfl⟩⟩ | exact ⟨.inr ⟨_, rfl⟩, .inr ⟨_, rfl⟩⟩ | cases z
          refine hti t u y v w H1 _ z (flat kinds.1 rv) (flat kinds.2 o1) fun y' ry => ?_
          have x2 : SExt ρ I h H σT σ ρ1 I1 h1 H1 (σT.set j (some (.v y))) (σ.set j (some y')) := { (SExt.of x1 : SExt ρ I h H σT σ ρ1 I1 h1 H1 σT σ) with onew := fun a z => .inl (own_set z) }
          exact NS.nx (show NS X.K X.M W ρ I h H σT σ (.ok .nx (σT.set j (some (.v y))) h1) D from n1) ρ1 I1 H1 _ x2 r1 ((sr.ext hr x1).set (ry ρ1 I1 H1) j)
      · exact n1.elim
    · exact n.elim
  have none_op : (∀ t u, augT op t u = none) → PS X (.AugAssign (.Name x p) op pe pos) (tS X.K X.M W (evS Γ (.aug j op e))) := fun hno => by
    refine PS.imp (ps_aug (ti := fun _ _ _ _ => False) G.nd hi (loc_of hl) he (fun _ _ _ _ _ _ _ _ _ _ _ _ h => h.elim) (.inl (G.fnl x))) (fin _ fun t u z v w H Q hz => ?_)
    rw [hno t u] at hz
    cases hz
  cases op with
  | Add =>
    refine PS.imp (ps_aug G.nd hi (loc_of hl) he (PIp.or ip_add (fun pins s σ H x y v u Q I rx ry h => iop_add_str pins s σ H x y v u Q I rx ry h)) (.inl (G.fnl x))) (fin _ fun t u z v w H Q hz rv rw' q => ?_)
    cases t <;> cases u <;> try exact (no_some hz).elim
    · cases hz
      exact .inl ⟨_, _, rv (ρ := []) (I := fun _ => False) (H := H), rw' (ρ := []) (I := fun _ => False) (H := H), q _ fun _ _ _ => rfl⟩
    · obtain ⟨c, rfl⟩ := ite_some (show (if _ then some _ else none) = some z from hz)
      exact .inr ⟨_, _, rv (ρ := []) (I := fun _ => False) (H := H), rw' (ρ := []) (I := fun _ => False) (H := H), by rw [sizeLine_eq]; exact c, q _ fun _ _ _ => rfl⟩
  | Sub =>
    refine PS.imp (ps_aug G.nd hi (loc_of hl) he ip_sub (.inl (G.fnl x))) (fin _ fun t u z v w H Q hz rv rw' q => ?_)
    cases t <;> cases u <;> try exact (no_some hz).elim
    cases hz
    exact ⟨_, _, rv (ρ := []) (I := fun _ => False) (H := H), rw' (ρ := []) (I := fun _ => False) (H := H), q _ fun _ _ _ => rfl⟩
  | Mult =>
    refine PS.imp (ps_aug G.nd hi (loc_of hl) he ip_mul (.inl (G.fnl x))) (fin _ fun t u z v w H Q hz rv rw' q => ?_)
    cases t <;> cases u <;> try exact (no_some hz).elim
    obtain ⟨c, rfl⟩ := ite_some (show (if _ then some _ else none) = some z from hz)
    exact ⟨_, _, rv (ρ := []) (I := fun _ => False) (H := H), rw' (ρ := []) (I := fun _ => False) (H := H), c, q _ fun _ _ _ => rfl⟩
  | _ => exact none_op fun t u => by cases t <;> cases u <;> rfl
end
end VY
namespace VY
open PySem PySem.Spec
open PyProof.Rows hiding St
open L2
section
variable {K : PySem.W.Frag} {mg : Mg} {ρ ρ' ρ'' : List Addr} {I I' I'' : Addr → Prop} {h h' h'' : Hs} {H H' H'' H0 : Hp} {σT σT' σT'' : Slots} {σ σ' σ'' τ : St} {τT : Slots} {W W' : WX}
/-- what an expression gave, stored into a slot; nobody holds its list -/
theorem put_ok' {v : V} {r : R} {s : Sl} {i : Nat} (x : SExt ρ I h H σT σ ρ' I' h' H' σT' σ') (sr : SR K mg ρ' I' h' H' σT' σ') (o : RO K mg ρ' I' h' H' H τT τ v r)
    (no : ∀ (l : List T) (a : Addr), r = .al l → v = .ref a → ¬ Own σT' σ' a) (e : putR r = some s) :
    SExt ρ I h H σT σ ρ' I' h' H' (σT'.set i (some s)) (σ'.set i (some v)) ∧ SR K mg ρ' I' h' H' (σT'.set i (some s)) (σ'.set i (some v)) := by
  cases r with
  | v t => cases e; exact ⟨{ x with onew := fun a z => x.onew a (own_set z) }, sr.set o i⟩
  | al l =>
    cases e
    obtain ⟨a, vs, rfl, n, p, ni, nl, w⟩ := o
    refine ⟨{ x with onew := fun b z => (own_setA z).elim (x.onew b) fun q => by rw [q]; exact .inr n }, sr.setA p ni nl w i fun j m _ e1 e2 => ?_⟩
    exact no l a rfl rfl ⟨j, m, e1, e2⟩
  | bw i => cases e
theorem own_put {v : V} {r : R} {s : Sl} {i : Nat} {a : Addr} (e : putR r = some s) (hv : ∀ l, r = .al l → ∃ b, v = .ref b) (z : Own (σT.set i (some s)) (σ.set i (some v)) a) : Own σT σ a ∨ (∃ l, r = .al l ∧ v = .ref a) := by
  cases r with
  | v t => cases e; exact .inl (own_set z)
  | al l =>
    cases e
    obtain ⟨b, rfl⟩ := hv l rfl
    exact (own_setA z).imp id fun q => by subst q; exact ⟨l, rfl, rfl⟩
  | bw i => cases e
theorem RO.isR {H0 : Hp} {v : V} {r : R} (o : RO K mg ρ I h H H0 τT τ v r) : ∀ l, r = .al l → ∃ b, v = .ref b := fun l e => by
  subst e
  obtain ⟨a, vs, e, _⟩ := o
  exact ⟨a, e⟩
/-- a fresh list's place -/
theorem RO.new {H0 : Hp} {v : V} {l : List T} {a : Addr} (o : RO K mg ρ I h H H0 τT τ v (.al l)) (e : v = .ref a) : H0 a = none ∧ (H a).isSome := by
  obtain ⟨b, vs, e', n, p, _⟩ := o
  rw [e] at e'
  cases e'
  exact ⟨n, isSome_of p⟩
end
section
variable {X : Cx} {N : Nms} {Γ : Ctx} {k : Nat} {W : WX} {e o i a b c : E} {pe po pi pg pa pb pc : Expr} {pos : Pos}
/-- the order of the stores, as the model takes it -/
def swS (sc : Scope) (ts vs : List Expr) : Option (Option (List Str)) :=
  if !(ts.length == 2 || ts.length == 3) || vs.length != ts.length then some none
  else if (vs.any fun | .Starred .. => true | _ => false) then some none
  else
    let line := (ts.head?.map (·.pos.line)).getD 0
    let names := ts.filterMap fun
      | .Name id pos => if sc.names.lookup id == some .local && pos.line == line then some id else none
      | _ => none
    if names.length != ts.length || names.eraseDups.length != names.length then some none
    else if vs.all (foldedForSure 8) then some none
    else if vs.all (constantsAlone 8) then none
    else some (some names)
theorem swS_ok {env : Env} (hk : env.scope.kind = .function) {ts vs : List Expr} {r : Option (List Str)} {i' j' : Nat} {p q : Pos} (e : swS env.scope ts vs = some r) : swappedStores [.Tuple ts i' p] (.Tuple vs j' q) env = pure r := by
  have hb : (env.blockKind != ScopeKind.function) = false := by unfold Env.blockKind; rw [hk]; rfl
  unfold swS at e
  unfold swappedStores
  simp only [hb, Bool.or_false]
  split at e
  · rename_i c
    rw [if_pos c]
    cases e
    rfl
  · rename_i c
    rw [if_neg c]
    split at e
    · rename_i c1
      cases e
      exact if_pos c1
    · rename_i c1
      refine (if_neg c1).trans ?_
      simp only [] at e
      split at e
      · rename_i c2
        cases e
        exact if_pos c2
      · rename_i c2
        refine (if_neg c2).trans ?_
        split at e
        · rename_i c3
          cases e
          exact if_pos c3
        · rename_i c3
          refine (if_neg c3).trans ?_
          split at e
          · cases e
          · rename_i c4
            cases e
            exact if_neg c4
theorem s_par2 (G : Gs X N Γ k W) (hh : N.hot = false) {i j : Nat} {x y : Str} {px py pt pt2 : Pos} {k1 k2 : Nat} (hi : X.N[i]? = some x) (hj : X.N[j]? = some y) (hij : i ≠ j) (hx : X.env.scope.names.lookup x = some .local) (hy : X.env.scope.names.lookup y = some .local)
    (ha : PE X pa (tD X.K X.M W (evE Γ a))) (hb : PE X pb (tD X.K X.M W (evE Γ b))) (sa : notStar pa = true) (sb : notStar pb = true)
    (hw : swS X.env.scope [.Name x px, .Name y py] [pa, pb] = some (some [x, y])) :
    PS X (.Assign [.Tuple [.Name x px, .Name y py] k1 pt] (.Tuple [pa, pb] k2 pt2) pos) (tS X.K X.M W (evS Γ (.par2 i j a b))) := by
  refine PS.imp (ps_par (G.calm hh) G.nd hi hj hij hx hy (pa_cons ha (pa_cons hb pa_nil (star_eq sb)) (star_eq sa)) (swS_ok G.kind hw) rfl) ?_
  rintro D σ H ⟨ρ, I, σT, h, hr, sr, n⟩
  rw [evS] at n
  refine ⟨ρ, I, σT, h, hr, sr, (n.sb sr hr).imp fun r h1 ρ1 I1 H1 x1 r1 n1 v o1 => ?_⟩
  have s1 := sr.ext hr x1
  refine ⟨ρ1, I1, σT, h1, r1, s1, (n1.sb' (.of x1) s1 r1).imp fun r' h2 ρ2 I2 H2 x2 r2 n2 v' o2 => ⟨v, v', rfl, ?_⟩⟩
  have s2 := s1.ext r1 x2
  have xx := x1.trans x2
  cases e1 : putR r with
  | none => rw [e1] at n2; exact n2.elim
  | some w =>
    cases e2 : putR r' with
    | none => rw [e1, e2] at n2; exact n2.elim
    | some w' =>
      rw [e1, e2] at n2
      obtain ⟨y1, t1⟩ := put_ok' (i := i) (.of xx) s2 (o1.ext r1 x2) (fun l a er ev ow => by
        subst er
        exact not_none (sr.own ow).1 (o1.new ev).1) e1
      obtain ⟨y2, t2⟩ := put_ok' (i := j) y1 t1 (o2.back x1.dom) (fun l a er ev ow => by
        subst er
        have q := o2.new ev
        rcases own_put e1 o1.isR ow with z | ⟨m, er', ev'⟩
        · exact not_none (x1.dom _ (sr.own z).1) q.1
        · subst er'
          exact not_none (o1.new ev').2 q.1) e2
      exact n2.nx ρ2 I2 H2 _ y2 r2 t2
theorem s_par3 (G : Gs X N Γ k W) (hh : N.hot = false) {i j l : Nat} {x y z : Str} {px py pz pt pt2 : Pos} {k1 k2 : Nat} (hi : X.N[i]? = some x) (hj : X.N[j]? = some y) (hl : X.N[l]? = some z) (hij : i ≠ j) (hil : i ≠ l) (hjl : j ≠ l)
    (hx : X.env.scope.names.lookup x = some .local) (hy : X.env.scope.names.lookup y = some .local) (hz : X.env.scope.names.lookup z = some .local)
    (ha : PE X pa (tD X.K X.M W (evE Γ a))) (hb : PE X pb (tD X.K X.M W (evE Γ b))) (hc : PE X pc (tD X.K X.M W (evE Γ c))) (sa : notStar pa = true) (sb : notStar pb = true) (sc : notStar pc = true)
    (hw : swS X.env.scope [.Name x px, .Name y py, .Name z pz] [pa, pb, pc] = some (some [x, y, z])) :
    PS X (.Assign [.Tuple [.Name x px, .Name y py, .Name z pz] k1 pt] (.Tuple [pa, pb, pc] k2 pt2) pos) (tS X.K X.M W (evS Γ (.par3 i j l a b c))) := by
  refine PS.imp (ps_par3 (G.calm hh) G.nd hi hj hl hij hil hjl hx hy hz (pa_cons ha (pa_cons hb (pa_cons hc pa_nil (star_eq sc)) (star_eq sb)) (star_eq sa)) (swS_ok G.kind hw) rfl) ?_
  rintro D σ H ⟨ρ, I, σT, h, hr, sr, n⟩
  rw [evS] at n
  refine ⟨ρ, I, σT, h, hr, sr, (n.sb sr hr).imp fun r h1 ρ1 I1 H1 x1 r1 n1 v o1 => ?_⟩
  have s1 := sr.ext hr x1
  refine ⟨ρ1, I1, σT, h1, r1, s1, (n1.sb' (.of x1) s1 r1).imp fun r' h2 ρ2 I2 H2 x2 r2 n2 v' o2 => ?_⟩
  have s2 := s1.ext r1 x2
  have xx := x1.trans x2
  refine ⟨ρ2, I2, σT, h2, r2, s2, (n2.sb' (.of xx) s2 r2).imp fun r'' h3 ρ3 I3 H3 x3 r3 n3 v'' o3 => ⟨v, v', v'', rfl, ?_⟩⟩
  have s3 := s2.ext r2 x3
  have xxx := xx.trans x3
  cases e1 : putR r with
  | none => rw [e1] at n3; exact n3.elim
  | some w =>
    cases e2 : putR r' with
    | none => rw [e1, e2] at n3; exact n3.elim
    | some w' =>
      cases e3 : putR r'' with
      | none => rw [e1, e2, e3] at n3; exact n3.elim
      | some w'' =>
        rw [e1, e2, e3] at n3
        obtain ⟨y1, t1⟩ := put_ok' (i := i) (.of xxx) s3 ((o1.ext r1 x2).ext r2 x3) (fun l a er ev ow => by
          subst er
          exact not_none (sr.own ow).1 (o1.new ev).1) e1
        obtain ⟨y2, t2⟩ := put_ok' (i := j) y1 t1 ((o2.ext r2 x3).back x1.dom) (fun l a er ev ow => by
          subst er
          have q := o2.new ev
          rcases own_put e1 o1.isR ow with z | ⟨m, er', ev'⟩
          · exact not_none (x1.dom _ (sr.own z).1) q.1
          · subst er'
            exact not_none (o1.new ev').2 q.1) e2
        obtain ⟨y3, t3⟩ := put_ok' (i := l) y2 t2 (o3.back xx.dom) (fun l a er ev ow => by
          subst er
          have q := o3.new ev
          rcases own_put e2 o2.isR ow with z | ⟨m, er', ev'⟩
          · rcases own_put e1 o1.isR z with z | ⟨m, er', ev'⟩
            · exact not_none (xx.dom _ (sr.own z).1) q.1
            · subst er'
              exact not_none (x2.dom _ (o1.new ev').2) q.1
          · subst er'
            exact not_none (o2.new ev').2 q.1) e3
        exact n3.nx ρ3 I3 H3 _ y3 r3 t3
end
end VY
namespace VY
open PySem PySem.Spec
open PyProof.Rows hiding St
open L2
abbrev NoW : WX := fun _ _ _ _ => False
section
variable {X : Cx} {N : Nms} {Γ : Ctx} {k : Nat} {W : WX}
/-- within a try's body -/
theorem Gs.tr (G : Gs X N Γ k W) {W' : WX} {pn : List (Addr × Obj)} {xe : Value → Shared → Prop} (tk : Takes (X.tr pn xe) W') (po : PassesOwn (model X.prog X.w) X.A X.env xe) : Gs (X.tr pn xe) N Γ k W' :=
  { calm := G.calm, room := G.room, hu := G.hu, nd := G.nd, gl := G.gl, fn := G.fn, ix := G.ix, wd := G.wd, bl := G.bl, fr := G.fr, tk := tk, kind := G.kind, fnl := G.fnl, po := fun _ => po, stk := G.stk, frm := G.frm }
def Nms.heat (N : Nms) : Nms := ⟨N.n, N.fn, N.gl, true⟩
/-- within an except clause: nothing is called, nothing raised -/
theorem Gs.suite (G : Gs X N Γ k W) (a : Addr) (pn : List (Addr × Obj)) : Gs (X.suite a pn) N.heat Γ k NoW :=
  { calm := fun z => (nomatch z), room := fun z => (nomatch z), hu := G.hu, nd := G.nd, gl := G.gl, fn := G.fn, ix := G.ix, wd := G.wd, bl := G.bl, fr := G.fr, tk := fun u s' ⟨_, _, _, _, _, _, _, _, _, _, _, _, _, _, _, _, z⟩ => z, kind := G.kind, fnl := G.fnl, po := fun z => (nomatch z), stk := G.stk, frm := G.frm }
theorem NS.noex {K : PySem.W.Frag} {mg : Mg} {ρ : List Addr} {I : Addr → Prop} {h : Hs} {H : Hp} {σT : Slots} {σ : St} {W W' : WX} {o : SO} {D : Ends} (n : NS K mg W ρ I h H σT σ o.noex D) : NS K mg W' ρ I h H σT σ o D := by
  cases o with
  | ok f σ2 h2 => exact n
  | ex y σ2 h2 => exact n.elim
  | bad => exact n.elim
theorem s_try1 (G : Gs X N Γ k W) (hh : N.hot = false) {body suite : List S} {pb ps : List Stmt} {p0 : Stmt} {y : Str} {np pos pos' : Pos} (hy : y = ("ZeroDivisionError" : Str)) (hg : glbB X.env.scope y = true)
    (hb : ∀ {W' : WX} {pn : List (Addr × Obj)} {xe : Value → Shared → Prop}, Gs (X.tr pn xe) N Γ k W' → PSs (X.tr pn xe) pb (tS X.K X.M W' (evSs Γ body)))
    (hs : ∀ (a : Addr) (pn : List (Addr × Obj)), PSs (X.suite a pn) (p0 :: ps) (tS X.K X.M NoW (evSs Γ suite))) :
    PS X (.Try pb [.ExceptHandler (some (.Name y np)) none (p0 :: ps) pos'] [] [] pos) (tS X.K X.M W (evS Γ (.try1 "ZeroDivisionError" body suite))) := by
  subst hy
  have nm : Names X "ZeroDivisionError" (.type "ZeroDivisionError") := ⟨(glb_of hg).1, by decide, .inr ⟨G.fr _ (by decide +kernel), boot_ZeroDivisionError, by decide⟩⟩
  refine PS.imp (ps_try_only (c := .type "ZeroDivisionError") (tb := fun W' => tS X.K X.M W' (evSs Γ body)) (ts := fun _ _ _ => tS X.K X.M NoW (evSs Γ suite)) (Wout := W) G.stk G.frm nm G.tk (fun W' pn xe tk po => hb (G.tr tk po)) (fun a oe cls d pn _ _ => hs a _)) ?_
  rintro D σ H ⟨ρ, I, σT, h, hr, sr, n⟩
  rw [evS] at n
  refine ⟨ρ, I, σT, h, hr, sr, ?_⟩
  cases eo : evSs Γ body σT h with
  | ok f σ2 h2 => rw [eo] at n; exact n
  | bad => rw [eo] at n; exact n.elim
  | ex x σ2 h2 =>
    rw [eo] at n
    cases x with
    | own c fs => exact n.elim
    | blt z =>
      rw [SO.catch_ex] at n
      split at n
      · rename_i hz
        subst hz
        intro cls d ρ' I' H' σ' x' r' s' xr
        cases (show cls = .type "ZeroDivisionError" from xr)
        refine ⟨true, by rfl, fun _ a _ => ?_, fun z => nomatch z⟩
        exact ⟨ρ', I', σ2, h2, r', s', NS.noex (NS.from n x')⟩
      · exact n.elim
end
end VY
namespace VY
open PySem PySem.Spec
open PyProof.Rows hiding St
open L2
def notComp : Expr → Bool
  | .ListComp .. => false | .SetComp .. => false | .DictComp .. => false | _ => true
theorem comp_pure {e : Expr} {t : Option Expr} {n : Nat} {env : Env} (h : notComp e = true) : swapsWith e t n env = pure false := by cases e <;> first | rfl | cases h
def isNone2 : Option (Option (List Str)) → Bool
  | some none => true
  | _ => false
theorem isNone2_of {o : Option (Option (List Str))} (h : isNone2 o = true) : o = some none := by
  unfold isNone2 at h
  split at h
  · rfl
  · cases h
def isNames (o : Option (Option (List Str))) (ns : List Str) : Bool := match o with
  | some (some l) => decide (l = ns)
  | _ => false
theorem isNames_of {o : Option (Option (List Str))} {ns : List Str} (h : isNames o ns = true) : o = some (some ns) := by
  unfold isNames at h
  split at h
  · rw [of_decide_eq_true h]
  · cases h
def lclB (sc : Scope) (x : Str) : Bool := match sc.names.lookup x with
  | some .local => true | _ => false
theorem lclB_of {sc : Scope} {x : Str} (h : lclB sc x = true) : sc.names.lookup x = some .local := by
  unfold lclB at h
  split at h
  · assumption
  · cases h
/-- a tuple's stores in their order -/
def plainTp (sc : Scope) (pg pe : Expr) : Bool := match pg with
  | .Tuple ts _ _ => (match pe with
    | .Tuple vs _ _ => isNone2 (swS sc ts vs)
    | _ => true)
  | _ => false
variable (nm : List Str) (sc : Scope)
mutual
def mS (N : Nms) : S → Stmt → Bool
  | .asg j e, s => match s with
    | .Assign [.Name x _] pe _ => decide (nm[j]? = some x) && locB sc x && mE N nm sc e pe
    | _ => false
  | .asgT tg e, s => match s with
    | .Assign [pg] pe _ => !N.hot && (mTg sc nm tg pg && mE N nm sc e pe && plainTp sc pg pe)
    | _ => false
  | .setIx o i e, s => match s with
    | .Assign [.Subscript po pi _] pe _ => mE N nm sc e pe && mE N nm sc o po && mE N nm sc i pi && notSlice pi
    | _ => false
  | .expr e, s => match s with
    | .Expr pe _ => mE N nm sc e pe && notComp pe
    | _ => false
  | .ret e, s => match s with
    | .Return (some pe) _ => mE N nm sc e pe
    | _ => false
  | .retS j, s => match s with
    | .Return (some (.Name x _)) _ => decide (nm[j]? = some x) && visB sc x && plainN x
    | _ => false
  | .retN, s => match s with
    | .Return none _ => true
    | _ => false
  | .ife c a b, s => match s with
    | .If pc pa pb _ => mCd N nm sc c pc && mSs N a pa && mSs N b pb
    | _ => false
  | .for tg it body, s => match s with
    | .For pg pi pb [] _ => !N.hot && (mTg sc nm tg pg && mIt N nm sc it pi && notSet pi && mSs N body pb)
    | _ => false
  | .whl c body, s => match s with
    | .While pc pb [] _ => !N.hot && (mCd N nm sc c pc && mSs N body pb)
    | _ => false
  | .brk, s => match s with
    | .Break _ => true
    | _ => false
  | .cnt, s => match s with
    | .Continue _ => true
    | _ => false
  | .pass, s => match s with
    | .Pass _ => true
    | _ => false
  | .app j e, s => match s with
    | .Expr (.Call (.Attribute (.Name x _) m ap) [pb] [] cp) _ => decide (m = "append") && decide (nm[j]? = some x) && visB sc x && plainN x && notStar pb && mE N nm sc e pb && (ap.endLine == cp.line)
    | _ => false
  | .aug j op e, s => match s with
    | .AugAssign (.Name x _) o pe _ => decide (nm[j]? = some x) && locB sc x && decide (o = op) && mE N nm sc e pe
    | _ => false
  | .fz _, _ => false
  | .pr _, _ => false
  | .try1 x body suite, s => match s with
    | .Try pb [.ExceptHandler (some (.Name y _)) none (p0 :: ps) _] [] [] _ => !N.hot && (decide (x = "ZeroDivisionError") && decide (y = ("ZeroDivisionError" : Str)) && glbB sc y && mSs N body pb && mSs N.heat suite (p0 :: ps))
    | _ => false
  | .par2 i j a b, s => match s with
    | .Assign [.Tuple [.Name x px, .Name y py] _ _] (.Tuple [pa, pb] _ _) _ => !N.hot && (decide (nm[i]? = some x) && decide (nm[j]? = some y) && decide (i ≠ j) && lclB sc x && lclB sc y && mE N nm sc a pa && mE N nm sc b pb && notStar pa && notStar pb &&
        isNames (swS sc [.Name x px, .Name y py] [pa, pb]) [x, y])
    | _ => false
  | .par3 i j l a b c, s => match s with
    | .Assign [.Tuple [.Name x px, .Name y py, .Name z pz] _ _] (.Tuple [pa, pb, pc] _ _) _ => !N.hot && (decide (nm[i]? = some x) && decide (nm[j]? = some y) && decide (nm[l]? = some z) && decide (i ≠ j) && decide (i ≠ l) && decide (j ≠ l) && lclB sc x && lclB sc y && lclB sc z &&
        mE N nm sc a pa && mE N nm sc b pb && mE N nm sc c pc && notStar pa && notStar pb && notStar pc && isNames (swS sc [.Name x px, .Name y py, .Name z pz] [pa, pb, pc]) [x, y, z])
    | _ => false
def mSs (N : Nms) : List S → List Stmt → Bool
  | [], [] => true
  | [], _ :: _ => false
  | s :: ss, ps => (match s with
    | .fz _ => mSs N ss ps
    | .pr _ => mSs N ss ps
    | _ => (match ps with
      | [] => false
      | p :: ps => mS N s p && mSs N ss ps))
end
section
variable {N : Nms} {Γ : Ctx} {k : Nat} {X : Cx} {W : WX}
theorem op_comp {nm : List Str} {sc : Scope} {o : Op} {es : List E} {pe : Expr} (h : ¬ notComp pe = true) (m : mE N nm sc (.op o es) pe = true) : False := by
  have z : shp sc o pe = none := by cases pe <;> first | exact (h rfl).elim | (cases o <;> rfl)
  unfold mE at m
  rw [z] at m
  exact ff (and_tt m).2
/-- x = e -/
theorem s_asgM (G : Gs X N Γ k W) {j : Nat} {x : Str} {p pos : Pos} {e : E} {pe : Expr} (hi : X.N[j]? = some x) (hl : locB X.env.scope x = true) (m : mE N X.N X.env.scope e pe = true) : PS X (.Assign [.Name x p] pe pos) (tS X.K X.M W (evS Γ (.asg j e))) := by
  by_cases hc : notComp pe = true
  · exact s_asg G hi hl (sE e G.toGd m) (comp_pure hc)
  · cases pe <;> try exact (hc rfl).elim
    · rename_i el gs scope lp
      have sw : swapsWith (.ListComp el gs scope lp) (some (.Name x p)) pos.line X.env = pure (X.env.blockKind == .function && X.env.kindOf x == some .local && p.line == lp.line && !(scope.names.any fun (n, k) => n == x && (k == .local || k == .cell))) := rfl
      cases hb : (X.env.blockKind == .function && X.env.kindOf x == some .local && p.line == lp.line && !(scope.names.any fun (n, k) => n == x && (k == .local || k == .cell))) with
      | false => exact s_asg G hi hl (sE e G.toGd m) (sw.trans (by rw [hb]))
      | true =>
        have hyl : X.env.scope.names.lookup x = some .local := by
          have q := (and_tt (and_tt (and_tt hb).1).1).2
          exact eq_of_beq q
        have sw' := sw.trans (congrArg pure hb)
        refine PS.imp ?_ fun D σ H q => asg_read q
        cases e <;> try first | exact (op_comp hc m).elim | (unfold mE at m; exact ff m)
        rename_i elt tg it cond
        unfold mE at m; simp only [] at m; split at m
        · rename_i t iter ifs a _
          have q := and_tt m
          have q1 := and_tt q.1
          have q2 := and_tt q1.1
          have q3 := and_tt q2.1
          have q4 := and_tt q3.1
          have q5 := and_tt q4.1
          have q6 := and_tt q5.1
          cases of_decide_eq_true q6.2
          refine s_setLc G.toGd (by simpa using q6.1) hi hyl sw' (blkOk_by q5.2) q4.2 (sIt it true G.toGd _ q3.2) q2.2 (fun s H C cl fp => ?_) (fun s H C cl fp => sE elt (G.toGd.blk s H _ (compEnvC _ cl C X.env) fp) q1.2)
          have qc := q.2
          split at qc
          · split at qc
            · exact pts_yes
            · exact ff qc
          · split at qc
            · exact ff qc
            · exact pts_one (sC cond (G.toGd.blk s H _ (compEnvC _ cl C X.env) fp) qc)
          · exact ff qc
        · exact ff m
    · cases e <;> first | exact (op_comp hc m).elim | (unfold mE at m; exact ff m)
    · cases e <;> first | exact (op_comp hc m).elim | (unfold mE at m; exact ff m)
theorem sole_sub {po pi pe : Expr} {p : Pos} {n : Nat} {env : Env} : swapsWithSole [.Subscript po pi p] pe n env = pure false := by cases pe <;> rfl
theorem sole_tup {ts : List Expr} {i : Nat} {pe : Expr} {p : Pos} {n : Nat} {env : Env} : swapsWithSole [.Tuple ts i p] pe n env = pure false := by cases pe <;> rfl
theorem plainTp_of {pg pe : Expr} {env : Env} {n : Nat} (hk : env.scope.kind = .function) (h : plainTp env.scope pg pe = true) : swappedStores [pg] pe env = pure none ∧ swapsWithSole [pg] pe n env = pure false ∧ (assignEach [pg] env).map (·.2) = [assign pg env] := by
  cases pg <;> try exact ff h
  refine ⟨?_, sole_tup, rfl⟩
  cases pe <;> first | rfl | exact swS_ok hk (isNone2_of h)
mutual
theorem sS {Γ : Ctx} {k : Nat} : ∀ (s : S) {X : Cx} {N : Nms} {W : WX} (G : Gs X N Γ k W) {ps : Stmt}, mS X.N X.env.scope N s ps = true → PS X ps (tS X.K X.M W (evS Γ s))
  | .asg j e, X, N, W, G, ps, m => by
    unfold mS at m; split at m
    · have q := and_tt m
      have q1 := and_tt q.1
      exact s_asgM G (of_decide_eq_true q1.1) q1.2 q.2
    · exact ff m
  | .asgT tg e, X, N, W, G, ps, m => by
    unfold mS at m; split at m
    · have q0 := and_tt m
      have q := and_tt q0.2
      have q1 := and_tt q.1
      have z := fun n => plainTp_of (n := n) G.kind q.2
      exact s_asgT G (by simpa using q0.1) q1.1 (sE e G.toGd q1.2) (z _).2.1 (z 0).1 (z 0).2.2
    · exact ff m
  | .setIx o i e, X, N, W, G, ps, m => by
    unfold mS at m; split at m
    · have q := and_tt m
      have q1 := and_tt q.1
      have q2 := and_tt q1.1
      exact s_setIx G (sE e G.toGd q2.1) (sE o G.toGd q2.2) (sE i G.toGd q1.2) q.2 sole_sub
    · exact ff m
  | .expr e, X, N, W, G, ps, m => by
    unfold mS at m; split at m
    · have q := and_tt m
      exact s_expr (sE e G.toGd q.1) (comp_pure q.2)
    · exact ff m
  | .ret e, X, N, W, G, ps, m => by
    unfold mS at m; split at m
    · exact s_ret (sE e G.toGd m)
    · exact ff m
  | .retS j, X, N, W, G, ps, m => by
    unfold mS at m; split at m
    · exact s_retS (of_decide_eq_true (and_tt (and_tt m).1).1) (and_tt (and_tt m).1).2 (and_tt m).2
    · exact ff m
  | .retN, X, N, W, G, ps, m => by
    unfold mS at m; split at m
    · exact s_retN
    · exact ff m
  | .ife c a b, X, N, W, G, ps, m => by
    unfold mS at m; split at m
    · have q := and_tt m
      have q1 := and_tt q.1
      exact s_ifS (sC c G.toGd q1.1) (sSs a G q1.2) (sSs b G q.2)
    · exact ff m
  | .for tg it body, X, N, W, G, ps, m => by
    unfold mS at m; split at m
    · have q0 := and_tt m
      have q := and_tt q0.2
      have q1 := and_tt q.1
      have q2 := and_tt q1.1
      exact s_for G (by simpa using q0.1) q2.1 (sIt it false G.toGd _ q2.2) q1.2 (sSs body G q.2)
    · exact ff m
  | .whl c body, X, N, W, G, ps, m => by
    unfold mS at m; split at m
    · have q0 := and_tt m
      have q := and_tt q0.2
      exact s_whl G (by simpa using q0.1) (sC c G.toGd q.1) (sSs body G q.2)
    · exact ff m
  | .brk, X, N, W, G, ps, m => by
    unfold mS at m; split at m
    · exact s_brk
    · exact ff m
  | .cnt, X, N, W, G, ps, m => by
    unfold mS at m; split at m
    · exact s_cnt
    · exact ff m
  | .pass, X, N, W, G, ps, m => by
    unfold mS at m; split at m
    · exact s_pass
    · exact ff m
  | .app j e, X, N, W, G, ps, m => by
    unfold mS at m; split at m
    · have q := and_tt m
      have q1 := and_tt q.1
      have q2 := and_tt q1.1
      have q3 := and_tt q2.1
      have q4 := and_tt q3.1
      have q5 := and_tt q4.1
      cases of_decide_eq_true q5.1
      exact s_app (of_decide_eq_true q5.2) q4.2 q3.2 q2.2 (sE e G.toGd q1.2) q.2
    · exact ff m
  | .aug j op e, X, N, W, G, ps, m => by
    unfold mS at m; split at m
    · have q := and_tt m
      have q1 := and_tt q.1
      have q2 := and_tt q1.1
      cases of_decide_eq_true q1.2
      exact s_aug G (of_decide_eq_true q2.1) q2.2 (sE e G.toGd q.2)
    · exact ff m
  | .try1 x body suite, X, N, W, G, ps, m => by
    unfold mS at m; split at m
    · have q0 := and_tt m
      have q := and_tt q0.2
      have q1 := and_tt q.1
      have q2 := and_tt q1.1
      have q3 := and_tt q2.1
      cases of_decide_eq_true q3.1
      exact s_try1 G (by simpa using q0.1) (of_decide_eq_true q3.2) q2.2 (fun G' => sSs body G' q1.2) fun a pn => sSs suite (G.suite a pn) q.2
    · exact ff m
  | .fz _, X, N, W, G, ps, m => ff m
  | .pr _, X, N, W, G, ps, m => ff m
  | .par2 i j a b, X, N, W, G, ps, m => by
    unfold mS at m; split at m
    · have q0 := and_tt m
      have q := and_tt q0.2
      have q1 := and_tt q.1
      have q2 := and_tt q1.1
      have q3 := and_tt q2.1
      have q4 := and_tt q3.1
      have q5 := and_tt q4.1
      have q6 := and_tt q5.1
      have q7 := and_tt q6.1
      have q8 := and_tt q7.1
      exact s_par2 G (by simpa using q0.1) (of_decide_eq_true q8.1) (of_decide_eq_true q8.2) (of_decide_eq_true q7.2) (lclB_of q6.2) (lclB_of q5.2) (sE a G.toGd q4.2) (sE b G.toGd q3.2) q2.2 q1.2 (isNames_of q.2)
    · exact ff m
  | .par3 i j l a b c, X, N, W, G, ps, m => by
    unfold mS at m; split at m
    · have q0 := and_tt m
      have q := and_tt q0.2
      have q1 := and_tt q.1
      have q2 := and_tt q1.1
      have q3 := and_tt q2.1
      have q4 := and_tt q3.1
      have q5 := and_tt q4.1
      have q6 := and_tt q5.1
      have q7 := and_tt q6.1
      have q8 := and_tt q7.1
      have q9 := and_tt q8.1
      have qa := and_tt q9.1
      have qb := and_tt qa.1
      have qc := and_tt qb.1
      have qd := and_tt qc.1
      have qe := and_tt qd.1
      exact s_par3 G (by simpa using q0.1) (of_decide_eq_true qe.1) (of_decide_eq_true qe.2) (of_decide_eq_true qd.2) (of_decide_eq_true qc.2) (of_decide_eq_true qb.2) (of_decide_eq_true qa.2) (lclB_of q9.2) (lclB_of q8.2) (lclB_of q7.2) (sE a G.toGd q6.2) (sE b G.toGd q5.2) (sE c G.toGd q4.2) q3.2 q2.2 q1.2 (isNames_of q.2)
    · exact ff m
theorem sSs {Γ : Ctx} {k : Nat} : ∀ (ss : List S) {X : Cx} {N : Nms} {W : WX} (G : Gs X N Γ k W) {ps : List Stmt}, mSs X.N X.env.scope N ss ps = true → PSs X ps (tS X.K X.M W (evSs Γ ss))
  | .try1 x body suite :: ss, X, N, W, G, ps, m => by
    cases ps with
    | nil => exact ff m
    | cons p ps => exact s_ss1 (sS (.try1 x body suite) G (and_tt m).1) (sSs ss G (and_tt m).2)
  | [], X, N, W, G, ps, m => by
    cases ps with
    | nil => exact s_ss0
    | cons p ps => exact ff m
  | .fz j :: ss, X, N, W, G, ps, m => s_fz (sSs ss G m)
  | .pr j :: ss, X, N, W, G, ps, m => s_pr (sSs ss G m)
  | .asg j e :: ss, X, N, W, G, ps, m => by
    cases ps with
    | nil => exact ff m
    | cons p ps => exact s_ss1 (sS (.asg j e) G (and_tt m).1) (sSs ss G (and_tt m).2)
  | .asgT tg e :: ss, X, N, W, G, ps, m => by
    cases ps with
    | nil => exact ff m
    | cons p ps => exact s_ss1 (sS (.asgT tg e) G (and_tt m).1) (sSs ss G (and_tt m).2)
  | .setIx o i e :: ss, X, N, W, G, ps, m => by
    cases ps with
    | nil => exact ff m
    | cons p ps => exact s_ss1 (sS (.setIx o i e) G (and_tt m).1) (sSs ss G (and_tt m).2)
  | .expr e :: ss, X, N, W, G, ps, m => by
    cases ps with
    | nil => exact ff m
    | cons p ps => exact s_ss1 (sS (.expr e) G (and_tt m).1) (sSs ss G (and_tt m).2)
  | .ret e :: ss, X, N, W, G, ps, m => by
    cases ps with
    | nil => exact ff m
    | cons p ps => exact s_ss1 (sS (.ret e) G (and_tt m).1) (sSs ss G (and_tt m).2)
  | .retS j :: ss, X, N, W, G, ps, m => by
    cases ps with
    | nil => exact ff m
    | cons p ps => exact s_ss1 (sS (.retS j) G (and_tt m).1) (sSs ss G (and_tt m).2)
  | .retN :: ss, X, N, W, G, ps, m => by
    cases ps with
    | nil => exact ff m
    | cons p ps => exact s_ss1 (sS .retN G (and_tt m).1) (sSs ss G (and_tt m).2)
  | .ife c a b :: ss, X, N, W, G, ps, m => by
    cases ps with
    | nil => exact ff m
    | cons p ps => exact s_ss1 (sS (.ife c a b) G (and_tt m).1) (sSs ss G (and_tt m).2)
  | .for tg it body :: ss, X, N, W, G, ps, m => by
    cases ps with
    | nil => exact ff m
    | cons p ps => exact s_ss1 (sS (.for tg it body) G (and_tt m).1) (sSs ss G (and_tt m).2)
  | .whl c body :: ss, X, N, W, G, ps, m => by
    cases ps with
    | nil => exact ff m
    | cons p ps => exact s_ss1 (sS (.whl c body) G (and_tt m).1) (sSs ss G (and_tt m).2)
  | .brk :: ss, X, N, W, G, ps, m => by
    cases ps with
    | nil => exact ff m
    | cons p ps => exact s_ss1 (sS .brk G (and_tt m).1) (sSs ss G (and_tt m).2)
  | .cnt :: ss, X, N, W, G, ps, m => by
    cases ps with
    | nil => exact ff m
    | cons p ps => exact s_ss1 (sS .cnt G (and_tt m).1) (sSs ss G (and_tt m).2)
  | .pass :: ss, X, N, W, G, ps, m => by
    cases ps with
    | nil => exact ff m
    | cons p ps => exact s_ss1 (sS .pass G (and_tt m).1) (sSs ss G (and_tt m).2)
  | .aug j op e :: ss, X, N, W, G, ps, m => by
    cases ps with
    | nil => exact ff m
    | cons p ps => exact s_ss1 (sS (.aug j op e) G (and_tt m).1) (sSs ss G (and_tt m).2)
  | .app j e :: ss, X, N, W, G, ps, m => by
    cases ps with
    | nil => exact ff m
    | cons p ps => exact s_ss1 (sS (.app j e) G (and_tt m).1) (sSs ss G (and_tt m).2)
  | .par2 i j a b :: ss, X, N, W, G, ps, m => by
    cases ps with
    | nil => exact ff m
    | cons p ps => exact s_ss1 (sS (.par2 i j a b) G (and_tt m).1) (sSs ss G (and_tt m).2)
  | .par3 i j l a b c :: ss, X, N, W, G, ps, m => by
    cases ps with
    | nil => exact ff m
    | cons p ps => exact s_ss1 (sS (.par3 i j l a b c) G (and_tt m).1) (sSs ss G (and_tt m).2)
end
end
end VY
namespace VY
open PySem PySem.Spec
open PyProof.Rows hiding St
open L2
/-- a def: where it stands, the names of its slots, its parameters, its tree -/
structure FnD where
  d : He.DefD
  nm : List Str
  ps : List Str
  fd : FD
  bind : ∀ (kV doc pm : Value) (an : Option Addr) (cdv ct : Value) (us : List Value), us.length = ps.length → bindArgs (PySem.W.fnOf d.name d.qual d.params d.body d.scope .none kV doc pm an cdv ct) ⟨us, []⟩ = pure (ps.zip us)
/-- a def's scope, looked at -/
def scpB (nm ps : List Str) (sc : Scope) : Bool := (match sc.kind with | .function => true | _ => false) && !sc.isCoroutine && !sc.isGenerator && decide nm.Nodup && decide (nm.take ps.length = ps) && ps.all (locB sc) && sc.names.all fun y => match y.2 with | .free => false | _ => true
theorem scpB_of {nm ps : List Str} {sc : Scope} (h : scpB nm ps sc = true) : FnScope nm ps sc := by
  have q := and_tt h
  have q1 := and_tt q.1
  have q2 := and_tt q1.1
  have q3 := and_tt q2.1
  have q4 := and_tt q3.1
  have q5 := and_tt q4.1
  refine ⟨?_, by simpa using q5.2, by simpa using q4.2, of_decide_eq_true q3.2, of_decide_eq_true q2.2, fun x hx => loc_of (List.all_eq_true.mp q1.2 x hx), fun y hy e => ?_⟩
  · have z := q5.1
    split at z
    · assumption
    · cases z
  · have z := List.all_eq_true.mp q.2 y hy
    rw [e] at z
    cases z
def okF (N : Nms) (f : FnD) : Bool := scpB f.nm f.ps f.d.scope && decide (f.fd.n = f.nm.length) && decide (f.fd.ps = f.ps.length) && decide (f.ps.length ≤ f.nm.length) && mSs f.nm f.d.scope N f.fd.body f.d.body && f.d.dfl.isEmpty && f.d.kwd.isEmpty
structure OkF (N : Nms) (f : FnD) : Prop where
  sc : FnScope f.nm f.ps f.d.scope
  n : f.fd.n = f.nm.length
  ps : f.fd.ps = f.ps.length
  le : f.ps.length ≤ f.nm.length
  m : mSs f.nm f.d.scope N f.fd.body f.d.body = true
  dfl : f.d.dfl = []
  kwd : f.d.kwd = []
theorem okF_of {N : Nms} {f : FnD} (h : okF N f = true) : OkF N f := by
  have q := and_tt h
  have q1 := and_tt q.1
  have q2 := and_tt q1.1
  have q3 := and_tt q2.1
  have q4 := and_tt q3.1
  have q5 := and_tt q4.1
  exact ⟨scpB_of q5.1, of_decide_eq_true q5.2, of_decide_eq_true q4.2, of_decide_eq_true q3.2, q2.2, List.isEmpty_iff.mp q1.2, List.isEmpty_iff.mp q.2⟩
section
variable {K : PySem.W.Frag} {mg : Mg} {ρ ρ' : List Addr} {I I' : Addr → Prop} {h h' : Hs} {H H' : Hp}
theorem start_own {ts : List T} {n : Nat} {σ : St} {a : Addr} (o : Own (startT n ts) σ a) : False := by
  obtain ⟨i, l, e, _⟩ := o
  unfold startT at e
  by_cases hi : i < ts.length
  · rw [List.getElem?_append_left (by simpa using hi), List.getElem?_map] at e
    cases z : ts[i]? with
    | none => rw [z] at e; cases e
    | some t => rw [z] at e; cases e
  · rw [List.getElem?_append_right (by simpa using hi), List.getElem?_replicate] at e
    split at e <;> cases e
theorem start_sr {ts : List T} {vs : List V} {nm : List Str} (q : Reps K mg ρ I H vs ts) (hl : vs.length ≤ nm.length) : SR K mg ρ I h H (startT nm.length ts) (L2.start nm vs) := by
  have lq := q.length
  refine ⟨?_, fun i t e => ?_, fun i l e => ?_, fun i j l m a e _ _ _ => ?_⟩
  · unfold startT L2.start
    simp only [List.length_append, List.length_map, List.length_replicate]
    omega
  · unfold startT at e
    unfold L2.start
    by_cases hi : i < ts.length
    · rw [List.getElem?_append_left (by simpa using hi), List.getElem?_map] at e
      cases z : ts[i]? with
      | none => rw [z] at e; cases e
      | some t' =>
        rw [z] at e
        cases e
        obtain ⟨v, q1, q2⟩ := q.get z
        exact ⟨v, by rw [List.getElem?_append_left (by simp; omega), List.getElem?_map, q1]; rfl, q2⟩
    · rw [List.getElem?_append_right (by simpa using hi), List.getElem?_replicate] at e
      split at e <;> cases e
  · exfalso
    unfold startT at e
    by_cases hi : i < ts.length
    · rw [List.getElem?_append_left (by simpa using hi), List.getElem?_map] at e
      cases z : ts[i]? with
      | none => rw [z] at e; cases e
      | some t => rw [z] at e; cases e
    · rw [List.getElem?_append_right (by simpa using hi), List.getElem?_replicate] at e
      split at e <;> cases e
  · exfalso
    unfold startT at e
    by_cases hi : i < ts.length
    · rw [List.getElem?_append_left (by simpa using hi), List.getElem?_map] at e
      cases z : ts[i]? with
      | none => rw [z] at e; cases e
      | some t => rw [z] at e; cases e
    · rw [List.getElem?_append_right (by simpa using hi), List.getElem?_replicate] at e
      split at e <;> cases e
/-- from a fresh frame -/
theorem SExt.start {ts : List T} {n : Nat} {σ σ' : St} {σT' : Slots} (x : SExt ρ I h H (startT n ts) σ ρ' I' h' H' σT' σ') : Ext ρ I h H ρ' I' h' H' :=
  ⟨x.pre, x.sub, fun a d l => x.keep a d l fun o => start_own o, x.dom, fun a i => (x.inew a i).imp id fun z => z.imp id fun z => z.elim id fun o => (start_own o).elim, fun a l => (x.lnew a l).imp id fun z => z.elim id fun o => (start_own o).elim⟩
theorem out_ns {E : XK} {Q : VK} {ts : List T} {n : Nat} {σ : St} {o : SO} (nx : Nx K mg (fun cls d _ H' => E cls d H') [] ρ I h H o.out fun r h' ρ' I' H' => ∀ v, RO K mg ρ' I' h' H' H [] [] v r → Q v H') :
    NS K mg (fun cls d _ H' => E cls d H') ρ I h H (startT n ts) σ o { nx := fun _ H' => Q .non H', rt := Q } := by
  cases o with
  | ok f σ2 h2 =>
    intro ρ2 I2 H2 σ2' x2 r2 s2
    cases f with
    | nx => exact nx ρ2 I2 H2 x2.start r2 .non rfl
    | brk => exact nx.elim
    | ct => exact nx.elim
    | ret r =>
      intro v q
      refine nx ρ2 I2 H2 x2.start r2 v ?_
      cases r with
      | v t => exact q
      | al l =>
        obtain ⟨a, vs, e, z, q⟩ := q
        exact ⟨a, vs, e, z.elim id fun o => (start_own o).elim, q⟩
      | bw i => exact q.elim
  | ex y σ2 h2 => exact fun cls d ρ2 I2 H2 σ2' x2 r2 s2 z => nx cls d ρ2 I2 H2 x2.start r2 z
  | bad => exact nx
end
/-- what stands behind the top -/
structure Top (P : Program) (w : World) (K : PySem.W.Frag) (mg : Str → Option Value) (N : Nms) (F : List FnD) (gv : Nat → Option T) (ix : Str → Option Nat) (wd : Str → Str → Option T) : Prop where
  len : N.n = F.length
  ix : ∀ x f, ix x = some f → f < N.n ∧ N.fn f = x
  wd : ∀ g z t, wd g z = some t → ∃ p v, mg g = some (.ref p) ∧ KDct K w p z v ∧ ∀ ρ I H, Rep K ⟨mg, P, w⟩ ρ I H v t
  gl : ∀ x t, gv x = some t → ∃ v u, (mg (N.gl x) = some u ∨ (mg (N.gl x) = none ∧ bootBuiltins (N.gl x) = some u ∧ N.gl x ≠ "__name__")) ∧ RelV v u ∧ ∀ ρ I H, Rep K ⟨mg, P, w⟩ ρ I H v t
  fn : ∀ f d, F[f]? = some d → OkF N d ∧ ∃ (a : Addr) (fd : FuncData), mg (N.fn f) = some (.ref a) ∧ FunD K d.d.name d.d.qual d.d.params d.d.body d.d.scope [] [] a fd
  bl : ∀ b : Bf, mg b.name = none
  fr : ∀ x ∈ frees, mg x = none
section
variable {P : Program} {w : World} {K : PySem.W.Frag} {mg : Str → Option Value} {N : Nms} {F : List FnD} {gv : Nat → Option T} {ix : Str → Option Nat} {wd : Str → Str → Option T} {base : Heap}
abbrev tds (F : List FnD) : List FD := F.map (·.fd)
theorem call_len {f : Nat} {d : FnD} (e : F[f]? = some d) (o : OkF N d) {k : Nat} {ts : List T} {h : Hs} (n : callK ⟨tds F, gv, ix, wd⟩ k f ts h ≠ .bad) : ts.length = d.ps.length := by
  cases k with
  | zero => exact (n rfl).elim
  | succ k =>
    unfold callK at n
    rw [List.getElem?_map, e] at n
    have n : runD ⟨callK ⟨tds F, gv, ix, wd⟩ k, gv, ix, wd⟩ d.fd ts h ≠ .bad := n
    unfold runD at n
    split at n
    · rename_i c; rw [c, o.ps]
    · exact (n rfl).elim
theorem fun_ok (T0 : Top P w K mg N F gv ix wd) : ∀ (k f : Nat) (d : FnD) (a : Addr) (fd : FuncData), F[f]? = some d → mg (N.fn f) = some (.ref a) → FunD K d.d.name d.d.qual d.d.params d.d.body d.d.scope [] [] a fd →
    FnOk P w K mg base (L2.CX P w) k a fd d.ps (spD K ⟨mg, P, w⟩ (callK ⟨tds F, gv, ix, wd⟩ k f) d.ps.length)
  | 0, f, d, a, fd, e, m, D => by
    have no : ∀ {vs H Q E}, spD K ⟨mg, P, w⟩ (callK ⟨tds F, gv, ix, wd⟩ 0 f) d.ps.length vs H Q E → False := fun h => by
      obtain ⟨_, ρ, I, h, ts, _, _, n⟩ := h
      exact n.elim
    exact ⟨fun vs H Q E h => (no h).elim, fun A outer s H args us vs Q E hr e0 hb r hs => (no hs).elim⟩
  | k + 1, f, d, a, fd, e, m, D => by
    obtain ⟨ok, _⟩ := T0.fn f d e
    refine D.ok ok.sc (fun vs H Q E h => h.1) (fun cdv A outer s H vs Q E hr h => ?_)
    obtain ⟨hl, ρ, I, hs, ts, hr0, rp, nx⟩ := h
    let X := cxOf (L2.CX P w) P w K mg base d.nm d.d.qual d.d.scope a cdv A outer s H E
    have G : Gs X N ⟨callK ⟨tds F, gv, ix, wd⟩ k, gv, ix, wd⟩ k (fun cls d _ H' => E cls d H') :=
      { calm := fun _ => rfl
        room := fun _ => hr
        hu := by have := hr.un; show (A.deeper (envOfC d.d.qual d.d.scope s.heap.objs.size a cdv)).units + 65 < cLine; omega
        nd := ok.sc.nd
        gl := T0.gl
        fn := fun g hg => by
          have hg' : g < F.length := by rw [← T0.len]; exact hg
          have e' : F[g]? = some F[g] := List.getElem?_eq_getElem hg'
          obtain ⟨ok', a', fd', m', D'⟩ := T0.fn g F[g] e'
          exact ⟨a', fd', F[g].ps, m', D'.kp, FunD.bindsN D' F[g].bind, fun_ok T0 k g F[g] a' fd' e' m' D', fun ts h n => call_len e' ok' n⟩
        ix := T0.ix
        wd := T0.wd
        bl := T0.bl
        fr := T0.fr
        tk := takes_of rfl rfl rfl rfl
        kind := ok.sc.kind
        fnl := fun _ => rfl
        po := fun _ => passes_of rfl
        stk := rfl
        frm := rfl }
    refine ⟨_, sSs d.fd.body G ok.m, ρ, I, startT d.fd.n ts, hs, hr0, ?_, ?_⟩
    · rw [ok.n]
      exact start_sr rp (by rw [hl]; exact ok.le)
    · unfold callK at nx
      rw [List.getElem?_map, e] at nx
      have nx : Nx K ⟨mg, P, w⟩ (fun cls d _ H' => E cls d H') [] ρ I hs H (runD ⟨callK ⟨tds F, gv, ix, wd⟩ k, gv, ix, wd⟩ d.fd ts hs) fun r h' ρ' I' H' => ∀ v, RO K ⟨mg, P, w⟩ ρ' I' h' H' H [] [] v r → Q v H' := nx
      unfold runD at nx
      rw [if_pos (by rw [ok.ps, ← hl, rp.length])] at nx
      exact out_ns nx
end
end VY
namespace VY
open PySem PySem.Spec
open PyProof.Rows hiding St
open L2
mutual
def repB (K : PySem.W.Frag) : T → Value → Bool
  | .non, u => (match u with | .none => true | _ => false)
  | .bl b, u => (match u with | .bool c => b == c | _ => false)
  | .int i, u => (match u with | .int j _ => decide (i = j) | _ => false)
  | .str x, u => (match u with | .str y _ => decide (x = y) | _ => false)
  | .ty n, u => (match u with | .type m => decide (n = m) | _ => false)
  | .gl x, u => (match u with | .ref a => decide (PySem.W.nsIn K mainGlobals x = some (some (.ref a))) | _ => false)
  | .tup l, u => (match u with
    | .ref a => (match K.lookup a with
      | some ⟨.type c, _, .seq its _, _⟩ => decide (c = "tuple") && decide (its.size ≤ sizeLine) && repsB K l its.toList
      | _ => false)
    | _ => false)
  | .slst l, u => (match u with
    | .ref a => (match K.lookup a with
      | some ⟨.type c, none, .seq its _, _⟩ => decide (c = "list") && decide (its.size ≤ sizeLine) && repsB K l its.toList
      | _ => false)
    | _ => false)
  | _, _ => false
def repsB (K : PySem.W.Frag) : List T → List Value → Bool
  | [], [] => true
  | t :: l, u :: us => repB K t u && repsB K l us
  | _, _ => false
end
section
variable {K : PySem.W.Frag} {h : Heap} {mg : Mg}
mutual
theorem repB_of (X : K.In h) (G : h.Ns mainGlobals mg.f) : ∀ (t : T) (u : Value), repB K t u = true → ∃ v, RelV v u ∧ ∀ ρ I H, Rep K mg ρ I H v t
  | .non, u, e => by
    unfold repB at e; split at e
    · exact ⟨.non, rfl, fun _ _ _ => rfl⟩
    · exact ff e
  | .bl b, u, e => by
    unfold repB at e; split at e
    · rename_i c
      cases eq_of_beq (show (b == c) = true from e)
      exact ⟨.bl b, rfl, fun _ _ _ => rfl⟩
    · exact ff e
  | .int i, u, e => by
    unfold repB at e; split at e
    · cases of_decide_eq_true e
      exact ⟨.int i, ⟨_, rfl⟩, fun _ _ _ => rfl⟩
    · exact ff e
  | .str x, u, e => by
    unfold repB at e; split at e
    · cases of_decide_eq_true e
      exact ⟨.str x, ⟨_, rfl⟩, fun _ _ _ => rfl⟩
    · exact ff e
  | .ty n, u, e => by
    unfold repB at e; split at e
    · cases of_decide_eq_true e
      exact ⟨.ty n, rfl, fun _ _ _ => rfl⟩
    · exact ff e
  | .gl x, u, e => by
    unfold repB at e; split at e
    · rename_i a
      exact ⟨.ref a, rfl, fun _ _ _ => ⟨a, rfl, PySem.W.mg_of X G (of_decide_eq_true e)⟩⟩
    · exact ff e
  | .tup l, u, e => by
    unfold repB at e; split at e
    · rename_i a
      split at e
      · rename_i o c dd its n sl lk
        have q := and_tt e
        have q1 := and_tt q.1
        obtain ⟨vs, r, p⟩ := repsB_of X G l _ q.2
        exact ⟨.ref a, rfl, fun ρ I H => ⟨a, vs, rfl, .inr ⟨_, its, n, lk, congrArg Value.type (of_decide_eq_true q1.1), rfl, of_decide_eq_true q1.2, r⟩, p ρ I H⟩⟩
      · exact ff e
    · exact ff e
  | .slst l, u, e => by
    unfold repB at e; split at e
    · rename_i a
      split at e
      · rename_i o c its n sl lk
        have q := and_tt e
        have q1 := and_tt q.1
        obtain ⟨vs, r, p⟩ := repsB_of X G l _ q.2
        exact ⟨.ref a, rfl, fun ρ I H => ⟨a, vs, rfl, .inr ⟨_, its, n, lk, congrArg Value.type (of_decide_eq_true q1.1), rfl, rfl, of_decide_eq_true q1.2, r⟩, p ρ I H⟩⟩
      · exact ff e
    · exact ff e
  | .ref _, u, e => by unfold repB at e; exact ff e
  | .lst _, u, e => by unfold repB at e; exact ff e
  | .dct _, u, e => by unfold repB at e; exact ff e
theorem repsB_of (X : K.In h) (G : h.Ns mainGlobals mg.f) : ∀ (l : List T) (us : List Value), repsB K l us = true → ∃ vs, Vals vs us ∧ ∀ ρ I H, Reps K mg ρ I H vs l
  | [], [], _ => ⟨[], .nil, fun _ _ _ => trivial⟩
  | t :: l, u :: us, e => by
    have q := and_tt e
    obtain ⟨v, r, p⟩ := repB_of X G t u q.1
    obtain ⟨vs, rs, ps⟩ := repsB_of X G l us q.2
    exact ⟨v :: vs, .cons r rs, fun ρ I H => ⟨p ρ I H, ps ρ I H⟩⟩
  | [], _ :: _, e => ff e
  | _ :: _, [], e => ff e
end
end
/-- the module's values by names -/
abbrev Gvs := List (Str × T)
/-- the module's written dicts -/
abbrev Wds := List (Str × List (Str × T))
def wdOf (ws : Wds) : Str → Str → Option T := fun g z => (ws.find? fun q => decide (q.1 = g)).bind fun q => (q.2.find? fun e => decide (e.1 = z)).map (·.2)
def tabsOf (ws : Wds) : List He.Tab := ws.map fun q => (fun K => He.ga K q.1, q.2.map (·.1))
def exW (ws : Wds) (K : PySem.W.Frag) : Bool := ws.all fun q => decide (PySem.W.nsIn K mainGlobals q.1 = some (some (.ref (He.ga K q.1)))) && q.2.all fun e => match PySem.W.nsIn K (He.ga K q.1) e.1 with
  | some (some u) => repB K e.2 u
  | _ => false
def exG (gs : Gvs) (K : PySem.W.Frag) : Bool := gs.all fun g => match g.2 with
  | .ty _ => decide (PySem.W.nsIn K mainGlobals g.1 = some none)
  | t => (match PySem.W.nsIn K mainGlobals g.1 with
    | some (some u) => repB K t u
    | _ => false)
def exB (gs : Gvs) (ws : Wds) (K : PySem.W.Frag) : Bool := exG gs K && exW ws K
/-- the built-in types -/
def tyB (gs : Gvs) : Bool := gs.all fun g => match g.2 with
  | .ty n => (match bootBuiltins g.1 with
    | some (.type m) => decide (m = n) && decide (g.1 ≠ "__name__")
    | _ => false)
  | _ => true
def allBf : List Bf := [.len, .abs, .int, .str, .isinstance, .max, .min, .tuple, .list, .sum, .any, .all, .sorted]
theorem allBf_all : ∀ b : Bf, b ∈ allBf := fun b => by cases b <;> simp [allBf]
def faOf (F : List FnD) : List He.Fa := F.map (fun f => .glo f.d.name) ++ (frees.map .free ++ allBf.map fun b => .free b.name)
def nmsOf (F : List FnD) (gs : Gvs) : Nms := ⟨F.length, fun f => (F[f]?.map (·.d.name)).getD Str.empty, fun g => (gs[g]?.map (·.1)).getD Str.empty, false⟩
def gvOf (gs : Gvs) : Nat → Option T := fun g => gs[g]?.map (·.2)
def ixOf (F : List FnD) : Str → Option Nat := fun x => F.findIdx? fun f => decide (f.d.name = x)
/-- the text as the interpreter has it -/
def pgOf (F : List FnD) (gs : Gvs) (ws : Wds) : Pg := ⟨tds F, gvOf gs, ixOf F, wdOf ws⟩
def okAll (F : List FnD) (gs : Gvs) : Bool := F.all fun f => okF (nmsOf F gs) f && decide (f.d.at_ = (f.d.name, none))
abbrev vyHook (n : Nat) (F : List FnD) (gs : Gvs) (ws : Wds) : PySem.W.Hook := He.hookX n (faOf F) (F.map (·.d)) (tabsOf ws) [] (exB gs ws)
theorem top_of {P : Program} {w : World} {K : PySem.W.Frag} {h : Heap} {mg : Str → Option Value} {F : List FnD} {gs : Gvs} {ws : Wds} (X : K.In h) (G : h.Ns mainGlobals mg) (c : He.SaysX (faOf F) (F.map (·.d)) (tabsOf ws) [] (exB gs ws) w h K) (ok : okAll F gs = true) (tb : tyB gs = true) :
    Top P w K mg (nmsOf F gs) F (gvOf gs) (ixOf F) (wdOf ws) where
  len := rfl
  ix := fun x f e => by
    unfold ixOf at e
    rw [List.findIdx?_eq_some_iff_getElem] at e
    obtain ⟨hf, e, _⟩ := e
    refine ⟨hf, ?_⟩
    show (F[f]?.map (·.d.name)).getD Str.empty = x
    rw [List.getElem?_eq_getElem hf]
    exact of_decide_eq_true e
  wd := fun g z t e => by
    unfold wdOf at e
    obtain ⟨q, eq, e⟩ := Option.bind_eq_some_iff.mp e
    obtain ⟨kt, ek, rfl⟩ := Option.map_eq_some_iff.mp e
    have hq := List.mem_of_find?_eq_some eq
    have hk := List.mem_of_find?_eq_some ek
    have e1 : q.1 = g := of_decide_eq_true (List.find?_some (p := fun q : Str × List (Str × T) => decide (q.1 = g)) eq)
    have e2 : kt.1 = z := of_decide_eq_true (List.find?_some (p := fun e : Str × T => decide (e.1 = z)) ek)
    subst e1 e2
    have m := and_tt (List.all_eq_true.mp (and_tt c.more).2 q hq)
    have m2 := List.all_eq_true.mp m.2 kt hk
    obtain ⟨i, hi, hi2⟩ := List.mem_iff_getElem.mp hq
    obtain ⟨es, n, kd⟩ := c.t.tab i (t := (fun K => He.ga K q.1, q.2.map (·.1))) (by
      unfold tabsOf
      rw [List.getElem?_map, List.getElem?_eq_getElem hi, hi2]
      rfl)
    split at m2
    · rename_i u eu
      obtain ⟨v, r, p⟩ := repB_of (mg := ⟨mg, P, w⟩) X G kt.2 u m2
      exact ⟨He.ga K q.1, v, PySem.W.mg_of X G (of_decide_eq_true m.1), ⟨es, n, u, kd.at_, kd.lit, eu, r⟩, p⟩
    · exact ff m2
  gl := fun x t e => by
    unfold gvOf at e
    cases eg : gs[x]? with
    | none => rw [eg] at e; cases e
    | some g =>
      rw [eg] at e
      cases e
      have hn : (nmsOf F gs).gl x = g.1 := by show (gs[x]?.map (·.1)).getD Str.empty = g.1; rw [eg]; rfl
      rw [hn]
      have hm := List.all_eq_true.mp (and_tt c.more).1 g (List.mem_of_getElem? eg)
      have ht := List.all_eq_true.mp tb g (List.mem_of_getElem? eg)
      have key : (∀ n, g.2 ≠ .ty n) → ∃ v u, (mg g.1 = some u ∨ (mg g.1 = none ∧ bootBuiltins g.1 = some u ∧ g.1 ≠ "__name__")) ∧ RelV v u ∧ ∀ ρ I H, Rep K ⟨mg, P, w⟩ ρ I H v g.2 := fun nt => by
        have hm2 : (match PySem.W.nsIn K mainGlobals g.1 with
          | some (some u) => repB K g.2 u
          | _ => false) = true := by
          split at hm
          · rename_i n e; exact (nt n e).elim
          · exact hm
        split at hm2
        · rename_i u e
          obtain ⟨v, r, p⟩ := repB_of (mg := ⟨mg, P, w⟩) X G g.2 u hm2
          exact ⟨v, u, .inl (PySem.W.mg_of X G e), r, p⟩
        · exact ff hm2
      cases et : g.2 with
      | ty n =>
        rw [et] at hm ht
        simp only [] at hm ht
        split at ht
        · rename_i m eb
          have q := and_tt ht
          have em : m = n := of_decide_eq_true q.1
          subst em
          show ∃ v u, _ ∧ _ ∧ ∀ ρ I H, Rep K ⟨mg, P, w⟩ ρ I H v g.2
          rw [et]
          exact ⟨.ty m, .type m, .inr ⟨PySem.W.mg_none_of X G (of_decide_eq_true hm), eb, of_decide_eq_true q.2⟩, rfl, fun _ _ _ => rfl⟩
        · exact ff ht
      | _ => exact key fun n z => by rw [et] at z; cases z
  fn := fun f d e => by
    have hm := List.mem_of_getElem? e
    have q := and_tt (List.all_eq_true.mp ok d hm)
    have o := okF_of q.1
    have ea := of_decide_eq_true q.2
    obtain ⟨fd, D⟩ := c.t.d.defs (d := d.d) (List.mem_map_of_mem (f := fun x : FnD => x.d) hm)
    have hn : (nmsOf F gs).fn f = d.d.name := by show (F[f]?.map (·.d.name)).getD Str.empty = d.d.name; rw [e]; rfl
    have g := He.glo_ok X G (c.t.d.facts (f := .glo d.d.name) (List.mem_append_left _ (List.mem_map_of_mem (f := fun x : FnD => He.Fa.glo x.d.name) hm)))
    have ef : He.fAd K d.d.at_ = He.ga K d.d.name := by rw [ea]; rfl
    have d0 : d.d.dvs K = [] := by unfold He.DefD.dvs; rw [o.dfl]; rfl
    have k0 : d.d.kws K = [] := by unfold He.DefD.kws; rw [o.kwd]; rfl
    rw [d0, k0] at D
    refine ⟨o, He.fAd K d.d.at_, fd, ?_, D⟩
    rw [hn, ef]
    exact g
  bl := fun b => He.free_ok X G (c.t.d.facts (f := .free b.name) (List.mem_append_right _ (List.mem_append_right _ (List.mem_map_of_mem (f := fun b : Bf => He.Fa.free b.name) (allBf_all b)))))
  fr := fun x hx => He.free_ok X G (c.t.d.facts (f := .free x) (List.mem_append_right _ (List.mem_append_left _ (List.mem_map_of_mem (f := He.Fa.free) hx))))
/-- the law's def, called with a script -/
theorem vy_law {P : Program} {w : World} {K : PySem.W.Frag} {h : Heap} {mg : Str → Option Value} {F : List FnD} {gs : Gvs} {ws : Wds} (X : K.In h) (G : h.Ns mainGlobals mg) (c : He.SaysX (faOf F) (F.map (·.d)) (tabsOf ws) [] (exB gs ws) w h K) (ok : okAll F gs = true) (tb : tyB gs = true)
    {li k most : Nat} {dl : FnD} {x : Str} {fa : Addr} (e : F[li]? = some dl) (ep : dl.ps = [x]) (hfa : mg dl.d.name = some (.ref fa))
    (hl : ∀ ns : List Int, ns.length ≤ most → ∃ h', callK (pgOf F gs ws) k li [.slst (ns.map .int)] [] = .ok (.v (.bl true)) h') :
    ∃ (fd : FuncData) (sp : Sp), (∀ (s : Shared) (u : Value), BindsTo s fd ⟨[u], []⟩ [(x, u)]) ∧
      (∀ (H : Hp) (a : Addr) (ns : List Int), ns.length ≤ most → Only H → SqL K H a (ns.map V.int) → sp [.ref a] H (fun v _ => v = .bl true) fun _ _ _ => False) ∧
      ∀ base : Heap, K.In base → base.Ns mainGlobals mg → FnOk P w K mg base (L2.CX P w) k fa fd [x] sp := by
  have T0 := top_of (P := P) X G c ok tb
  obtain ⟨o, a, fd, m, D⟩ := T0.fn li dl e
  have hn : (nmsOf F gs).fn li = dl.d.name := by show (F[li]?.map (·.d.name)).getD Str.empty = dl.d.name; rw [e]; rfl
  have ea : a = fa := by rw [hn, hfa] at m; cases m; rfl
  subst ea
  have b := FunD.bindsA D dl.bind
  rw [ep] at b
  refine ⟨fd, spD K ⟨mg, P, w⟩ (callK (pgOf F gs ws) k li) dl.ps.length, fun s u => b s [u] rfl, fun H a ns hle _ hS => ?_, fun base _ _ => by rw [← ep]; exact fun_ok T0 k li dl a fd e m D⟩
  rw [ep]
  obtain ⟨h', hc⟩ := hl ns hle
  have reps : ∀ ρ I, Reps K ⟨mg, P, w⟩ ρ I H (ns.map V.int) (ns.map T.int) := fun ρ I => by
    clear hle hS hc hl
    induction ns with
    | nil => exact trivial
    | cons n ns ih => exact ⟨rfl, ih⟩
  have done : ∀ I : Addr → Prop, (∀ b, I b → (H b).isSome) → ((I a ∧ Rd H a (.lst (ns.map V.int))) ∨ StL K a (ns.map V.int)) → spD K ⟨mg, P, w⟩ (callK (pgOf F gs ws) k li) [x].length [.ref a] H (fun v _ => v = .bl true) fun _ _ _ => False := fun I hI hr => by
    refine ⟨rfl, [], I, [], [.slst (ns.map .int)], ⟨rfl, fun n m a o o' e => by simp at e, fun a l => ?_, hI, fun n o a e => by simp at e⟩, ⟨⟨a, ns.map V.int, rfl, hr, reps _ _⟩, trivial⟩, ?_⟩
    · obtain ⟨n, o, e, _⟩ := l
      simp at e
    · rw [hc]
      exact fun ρ' I' H' x' r' v q => q
  rcases hS with hS | ⟨o, its, n, lk, c1, c2, c3, c4, c5⟩
  · refine done (fun b => b = a) (fun b e => ?_) (.inl ⟨rfl, hS⟩)
    subst e
    rcases hS with z | ⟨_, z⟩ <;> rw [z] <;> rfl
  · exact done (fun _ => False) (fun _ z => z.elim) (.inr ⟨o, its, n, lk, c1, c2, c3, c4, c5⟩)
/-- the walk over a law whose def may raise: what may come out depends on the world -/
theorem walk_vy {l : PySem.W.OpenLaw} {n k : Nat} {q : Program} {loose : List Str} {XP : (Str → Option Value) → Heap → Prop} {YP : World → Heap → Prop} {d : DefRec} {x : Str} (hn : l.most = some n) (hn2 : n ≤ sizeLine) (hdf : d.params.defaults = []) (hr : Room k callerA)
    (told : ∀ (w : World) (mg : Str → Option Value) (fa : Addr) (h : Heap), YP w h → h.Ns mainGlobals mg → mg d.name = some (.ref fa) →
      ∃ (K : PySem.W.Frag) (fd : FuncData) (sp : Sp), K.In h ∧ (∀ (s : Shared) (u : Value), BindsTo s fd ⟨[u], []⟩ [(x, u)]) ∧
        (∀ (H : Hp) (a : Addr) (ns : List Int), ns.length ≤ n → Only H → SqL K H a (ns.map V.int) → sp [.ref a] H (fun v _ => v = .bl true) fun _ _ _ => False) ∧
        ∀ base : Heap, K.In base → base.Ns mainGlobals mg → FnOk l.prog w K mg base (L2.CX l.prog w) k fa fd [x] sp) : PySem.W.WalkO q loose XP YP l.row.toRowW d [] (fun f vs => PySem.call f vs) := by
  refine Att.attach_call hn hdf fun w z z1 mg mb fa o pm cd doc a ns' ns G Y _ _ _ hmg ho hi hle hg => ?_
  obtain ⟨K, fd, sp, KX, hb, hs, hF⟩ := told w mg fa _ Y G.T.g hmg
  refine law_call KX G.T.g G.T.b G.T.builtins G.T.nolimit hg ho hi (Nat.le_trans hle hn2) hr hF hb (fun H hO hS => hs H a ns hle hO hS) fun H e s' => ?_
  rintro ⟨_, _, _, _, _, _, _, _, _, _, _, _, z⟩
  exact z
end VY
namespace VY
open PySem
section
variable (Γ : Ctx) (σ : Slots) (h : Hs)
def varE (i : Nat) (o : Option (Option Sl)) (h : Hs) : Out R := match o with
  | some (some (.v t)) => .ok (.v t) h
  | some (some (.al _)) => .ok (.bw i) h
  | _ => .bad
@[simp] theorem varE_v (i : Nat) (t : T) : varE i (some (some (.v t))) h = .ok (.v t) h := (rfl)
@[simp] theorem varE_al (i : Nat) (l : List T) : varE i (some (some (.al l))) h = .ok (.bw i) h := (rfl)
@[simp] theorem CT_int (i : Int) : (CT.int i).t = .int i := (rfl)
@[simp] theorem CT_str (i : Str) : (CT.str i).t = .str i := (rfl)
@[simp] theorem CT_bl (i : Bool) : (CT.bl i).t = .bl i := (rfl)
@[simp] theorem CT_non : CT.non.t = .non := (rfl)
@[simp] theorem evE_c (k : CT) : evE Γ (.c k) σ h = .ok (.v k.t) h := by rw [evE]
@[simp] theorem evE_var (i : Nat) : evE Γ (.var i) σ h = varE i σ[i]? h := by
  rw [evE]; unfold varE; rfl
@[simp] theorem evE_gl (x : Nat) : evE Γ (.gl x) σ h = lift ((Γ.gv x).map .v) h := by rw [evE]
@[simp] theorem evE_bin (op : Operator) (a b : E) : evE Γ (.bin op a b) σ h = (evE Γ a σ h).bind fun x h1 => (evE Γ b σ h1).bind fun y h2 => opL σ op x y h2 := by rw [evE]
def negL (x : R) (h : Hs) : Out R := match x with
  | .v (.int i) => .ok (.v (.int (-i))) h
  | _ => .bad
@[simp] theorem negL_int (i : Int) : negL (.v (.int i)) h = .ok (.v (.int (-i))) h := (rfl)
@[simp] theorem evE_neg (a : E) : evE Γ (.neg a) σ h = (evE Γ a σ h).bind negL := by rw [evE]; rfl
@[simp] theorem evE_not (a : E) : evE Γ (.not a) σ h = (evE Γ a σ h).bind fun x h1 => (truL σ x h1).bind fun b h2 => .ok (.v (.bl (!b))) h2 := by rw [evE]
@[simp] theorem evE_bop (op : BoolOp) (es : List E) : evE Γ (.bop op es) σ h = evB Γ op es σ h := by rw [evE]
@[simp] theorem evE_cmp (op : CmpOp) (a b : E) : evE Γ (.cmp op a b) σ h = (evE Γ a σ h).bind fun x h1 => (evE Γ b σ h1).bind fun y h2 => (cmpL σ op x y h2).bind fun k h3 => .ok (.v (.bl k)) h3 := by rw [evE]
@[simp] theorem evE_ch (op op' : CmpOp) (a b c : E) : evE Γ (.ch op op' a b c) σ h = (evE Γ a σ h).bind fun x h1 => (evE Γ b σ h1).bind fun y h2 => (cmpL σ op x y h2).bind fun k h3 =>
      if k then (evE Γ c σ h3).bind fun z h4 => (cmpL σ op' y z h4).bind fun k' h5 => .ok (.v (.bl k')) h5 else .ok (.v (.bl false)) h3 := by rw [evE]
@[simp] theorem evE_ife (c : C) (a b : E) : evE Γ (.ife c a b) σ h = (evC Γ c σ h).bind fun k h1 => if k then evE Γ a σ h1 else evE Γ b σ h1 := by rw [evE]
@[simp] theorem evE_tup (es : List E) : evE Γ (.tup es) σ h = (evEs Γ es σ h).bind fun ts h1 => if ts.length ≤ SL then .ok (.v (.tup ts)) h1 else .bad := by rw [evE]
@[simp] theorem evE_lst (es : List E) : evE Γ (.lst es) σ h = (evEs Γ es σ h).bind fun ts h1 => if ts.length ≤ SL then .ok (.al ts) h1 else .bad := by rw [evE]
@[simp] theorem evE_ix (a b : E) : evE Γ (.ix a b) σ h = (evE Γ a σ h).bind fun x h1 => (evE Γ b σ h1).bind fun y h2 => ixL Γ.wd σ x y h2 := by rw [evE]
def slL (σ : Slots) (x : R) (l u : Option Int) (h : Hs) : Out R := match peek σ h x with
  | some t => lift (slR t l u) h
  | none => .bad
@[simp] theorem evE_sl (a : E) (lo hi : O) : evE Γ (.sl a lo hi) σ h = (evE Γ a σ h).bind fun x h1 => (evO Γ lo σ h1).bind fun l h2 => (evO Γ hi σ h2).bind fun u h3 => slL σ x l u h3 := by rw [evE]; rfl
@[simp] theorem evE_call (f : Nat) (es : List E) : evE Γ (.call f es) σ h = (evEs Γ es σ h).bind fun ts h1 => Γ.call f ts h1 := by rw [evE]
@[simp] theorem evE_op (o : Op) (es : List E) : evE Γ (.op o es) σ h = (evRs Γ es σ h).bind fun rs h1 => opX σ o rs h1 := by rw [evE]
def cvL (Γ : Ctx) (o : Option (Option Sl)) (a : Hs → Out (List T)) (h : Hs) : Out R := match o with
  | some (some (.v (.gl x))) => (match Γ.ix x with
      | some f => (a h).bind fun ts h1 => Γ.call f ts h1
      | none => .bad)
  | _ => .bad
theorem cvL_gl {x : Str} {f : Nat} (e : Γ.ix x = some f) (a : Hs → Out (List T)) : cvL Γ (some (some (.v (.gl x)))) a h = (a h).bind fun ts h1 => Γ.call f ts h1 := by simp [cvL, e]
@[simp] theorem evE_callv (i : Nat) (es : List E) : evE Γ (.callv i es) σ h = cvL Γ σ[i]? (evEs Γ es σ) h := by rw [evE]; rfl
def dspL (ts : List T) (h1 : Hs) : Out R := match pairsT ts with
    | some kvs => if kvs.length ≤ 15 ∧ 0 < kvs.length then .ok (.v (.ref h1.length)) (h1 ++ [.dct (mergeT [] kvs)]) else .bad
    | none => .bad
@[simp] theorem evE_dsp (es : List E) : evE Γ (.dsp es) σ h = (evEs Γ es σ h).bind dspL := by rw [evE]; rfl
theorem dspL_of {ts : List T} {kvs : List (L2.Key × T)} (e : pairsT ts = some kvs) (c : kvs.length ≤ 15 ∧ 0 < kvs.length) : dspL ts h = .ok (.v (.ref h.length)) (h ++ [.dct (mergeT [] kvs)]) := by
  unfold dspL; rw [e]; exact if_pos c
@[simp] theorem keyT_int (i : Int) : keyT (.int i) = some (.inl i) := (rfl)
@[simp] theorem keyT_str (i : Str) : keyT (.str i) = some (.inr i) := (rfl)
@[simp] theorem evE_mth (m : Mt) (o : E) (es : List E) : evE Γ (.mth m o es) σ h = (evE Γ o σ h).bind fun x h1 => if mtOk σ h1 m x then (evRs Γ es σ h1).bind fun rs h2 => mtX σ x m rs h2 else .bad := by rw [evE]
def lsB : Option T → Bool
  | some (.lst _) => true
  | some (.slst _) => true
  | _ => false
def dcB : Option T → Bool
  | some (.dct _) => true
  | _ => false
@[simp] theorem lsB_lst (l : List T) : lsB (some (.lst l)) = true := (rfl)
@[simp] theorem dcB_dct (l : List (L2.Key × T)) : dcB (some (.dct l)) = true := (rfl)
@[simp] theorem mtOk_index (x : R) : mtOk σ h .index x = lsB (peek σ h x) := (rfl)
@[simp] theorem mtOk_get (x : R) : mtOk σ h .get x = dcB (peek σ h x) := (rfl)
def rvL (a : Option T) (h : Hs) : Out R := match a with
    | some (.lst l) => .ok (.al l.reverse) h
    | some (.slst l) => .ok (.al l.reverse) h
    | _ => .bad
@[simp] theorem rvL_lst (l : List T) : rvL (some (.lst l)) h = .ok (.al l.reverse) h := (rfl)
@[simp] theorem opX_rev (x : R) : opX σ .rev [x] h = rvL (peek σ h x) h := (rfl)
def lnL (a : Option T) (h : Hs) : Out R := match a with
    | some (.lst l) => lift ((intsOf l).bind fun ns => if ns.length ≤ 4000 then some (.v (.int (nubI ns).length)) else none) h
    | _ => .bad
@[simp] theorem lnL_lst (l : List T) : lnL (some (.lst l)) h = lift ((intsOf l).bind fun ns => if ns.length ≤ 4000 then some (.v (.int (nubI ns).length)) else none) h := (rfl)
@[simp] theorem opX_lns (x : R) : opX σ .lns [x] h = lnL (peek σ h x) h := (rfl)
@[simp] theorem opX_fdv (i j : Int) : opX σ .fdv [.v (.int i), .v (.int j)] h = if j = 0 then .ex (.blt "ZeroDivisionError") h else lift ((fdivT i j).map fun r => .v (.int r)) h := (rfl)
def revB : Option HOb → Bool
  | some (.lst _) => true
  | _ => false
@[simp] theorem revB_lst (l : List T) : revB (some (.lst l)) = true := (rfl)
@[simp] theorem mtOk_reverse (n : Nat) : mtOk σ h .reverse (.v (.ref n)) = revB h[n]? := by
  show (match some (seen h (.ref n)) with | some (.lst _) => true | _ => false) = _
  have e : seen h (.ref n) = (match h[n]? with | some (.lst l) => T.lst l | some (.dct l) => .dct l | _ => .ref n) := rfl
  rw [e]
  generalize h[n]? = o
  cases o with
  | none => rfl
  | some o => cases o <;> rfl
def idxL (a b : Option T) (h : Hs) : Out R := match a, b with
    | some (.lst l), some t => lift ((idxT t l).map fun (j : Nat) => .v (.int j)) h
    | some (.slst l), some t => lift ((idxT t l).map fun (j : Nat) => .v (.int j)) h
    | _, _ => .bad
@[simp] theorem idxL_lst (l : List T) (t : T) : idxL (some (.lst l)) (some t) h = lift ((idxT t l).map fun (j : Nat) => .v (.int j)) h := (rfl)
@[simp] theorem mtX_index (x y : R) : mtX σ x .index [y] h = idxL (peek σ h x) (peek σ h y) h := (rfl)
def getL (a : Option T) (b : Option L2.Key) (z : R) (h : Hs) : Out R := match a, b with
    | some (.dct l), some k => (match lookT l k with
      | some t => .ok (.v t) h
      | none => .ok z h)
    | _, _ => .bad
theorem getL_some {l : List (L2.Key × T)} {k : L2.Key} {t : T} (z : R) (e : lookT l k = some t) : getL (some (.dct l)) (some k) z h = .ok (.v t) h := by unfold getL; simp [e]
theorem getL_none {l : List (L2.Key × T)} {k : L2.Key} (z : R) (e : lookT l k = none) : getL (some (.dct l)) (some k) z h = .ok z h := by unfold getL; simp [e]
@[simp] theorem mtX_get (x : R) (y : T) (z : R) : mtX σ x .get [.v y, z] h = getL (peek σ h x) (keyT y) z h := (rfl)
def revL (n : Nat) (o : Option HOb) (h : Hs) : Out R := match o with
      | some (.lst l) => .ok (.v .non) (h.set n (.lst l.reverse))
      | _ => .bad
@[simp] theorem revL_lst (n : Nat) (l : List T) : revL n (some (.lst l)) h = .ok (.v .non) (h.set n (.lst l.reverse)) := (rfl)
@[simp] theorem mtX_reverse (n : Nat) : mtX σ (.v (.ref n)) .reverse [] h = revL n h[n]? h := (rfl)
@[simp] theorem evE_blt (f : Bf) (es : List E) : evE Γ (.blt f es) σ h = (evRs Γ es σ h).bind fun rs h1 => lift ((peeks σ h1 rs).bind (bltR f)) h1 := by rw [evE]
/-- one turn of a comprehension -/
def lcT (Γ : Ctx) (elt : E) (tg : Tg) (cond : C) (σ : Slots) (x : T) (h' : Hs) : Out (Option T) := noex (match asgT tg x (wipeT σ tg.ixs) with
        | some σ2 => (evC Γ cond σ2 h').bind fun b h2 => if b then (evE Γ elt σ2 h2).bind fun r h3 => lift ((frz r).map some) h3 else .ok none h2
        | none => .bad)
@[simp] theorem evE_lc (elt : E) (tg : Tg) (it : It) (cond : C) : evE Γ (.lc elt tg it cond) σ h = (evIt Γ true it σ h).bind fun p h1 => (lcL (lcT Γ elt tg cond σ) p.g p.ts [] h1).bind fun l h2 => .ok (.al l) h2 := by rw [evE]; rfl
@[simp] theorem evB_one (op : BoolOp) (e : E) : evB Γ op [e] σ h = evE Γ e σ h := by rw [evB]; rfl
@[simp] theorem evB_two (op : BoolOp) (e e' : E) (es : List E) : evB Γ op (e :: e' :: es) σ h = (evE Γ e σ h).bind fun x h1 => (truL σ x h1).bind fun k h2 => if k == (op == .Or) then .ok x h2 else evB Γ op (e' :: es) σ h2 := by rw [evB]; rfl
@[simp] theorem evC_yes : evC Γ .yes σ h = .ok true h := by rw [evC]
@[simp] theorem evC_t (e : E) : evC Γ (.t e) σ h = (evE Γ e σ h).bind fun x h1 => truL σ x h1 := by rw [evC]
@[simp] theorem evC_not (c : C) : evC Γ (.not c) σ h = (evC Γ c σ h).bind fun b h1 => .ok (!b) h1 := by rw [evC]
@[simp] theorem evC_bop (op : BoolOp) (cs : List C) : evC Γ (.bop op cs) σ h = evCs Γ op cs σ h := by rw [evC]
@[simp] theorem evCs_one (op : BoolOp) (c : C) : evCs Γ op [c] σ h = evC Γ c σ h := by rw [evCs]; rfl
@[simp] theorem evCs_two (op : BoolOp) (c c' : C) (cs : List C) : evCs Γ op (c :: c' :: cs) σ h = (evC Γ c σ h).bind fun k h1 => if k == (op == .Or) then .ok k h1 else evCs Γ op (c' :: cs) σ h1 := by rw [evCs]; rfl
def consF (x : R) (o : Hs → Out (List T)) (h : Hs) : Out (List T) := match frz x with
  | some t => (o h).bind fun ts h2 => .ok (t :: ts) h2
  | none => .bad
@[simp] theorem consF_v (t : T) (o : Hs → Out (List T)) : consF (.v t) o h = (o h).bind fun ts h2 => .ok (t :: ts) h2 := (rfl)
@[simp] theorem consF_al (l : List T) (o : Hs → Out (List T)) : consF (.al l) o h = (o h).bind fun ts h2 => .ok (.lst l :: ts) h2 := (rfl)
@[simp] theorem evEs_nil : evEs Γ [] σ h = .ok [] h := by rw [evEs]
@[simp] theorem evEs_cons (e : E) (es : List E) : evEs Γ (e :: es) σ h = (evE Γ e σ h).bind fun x h1 => consF x (evEs Γ es σ) h1 := by rw [evEs]; rfl
@[simp] theorem evRs_nil : evRs Γ [] σ h = .ok [] h := by rw [evRs]
@[simp] theorem evRs_cons (e : E) (es : List E) : evRs Γ (e :: es) σ h = (evE Γ e σ h).bind fun x h1 => (evRs Γ es σ h1).bind fun xs h2 => .ok (x :: xs) h2 := by rw [evRs]
@[simp] theorem peek_v (t : T) : peek σ h (.v t) = some (seen h t) := (rfl)
@[simp] theorem peek_al (l : List T) : peek σ h (.al l) = some (.lst l) := (rfl)
theorem peek_bw {i : Nat} {l : List T} (e : σ[i]? = some (some (.al l))) : peek σ h (.bw i) = some (.lst l) := by simp [peek, e]
@[simp] theorem peeks_nil : peeks σ h [] = some [] := (rfl)
@[simp] theorem peeks_v (t : T) (rs : List R) : peeks σ h (.v t :: rs) = (peeks σ h rs).map (seen h t :: ·) := by
  rw [peeks, peek_v]; cases peeks σ h rs <;> rfl
@[simp] theorem peeks_al (l : List T) (rs : List R) : peeks σ h (.al l :: rs) = (peeks σ h rs).map (.lst l :: ·) := by
  rw [peeks, peek_al]; cases peeks σ h rs <;> rfl
theorem peeks_bw {i : Nat} {l : List T} (e : σ[i]? = some (some (.al l))) (rs : List R) : peeks σ h (.bw i :: rs) = (peeks σ h rs).map (.lst l :: ·) := by
  rw [peeks, peek_bw σ h e]; cases peeks σ h rs <;> rfl
@[simp] theorem seen_non : seen h .non = .non := (rfl)
@[simp] theorem seen_bl (b : Bool) : seen h (.bl b) = .bl b := (rfl)
@[simp] theorem seen_int (b : Int) : seen h (.int b) = .int b := (rfl)
@[simp] theorem seen_str (b : Str) : seen h (.str b) = .str b := (rfl)
@[simp] theorem seen_ty (b : String) : seen h (.ty b) = .ty b := (rfl)
@[simp] theorem seen_gl (b : Str) : seen h (.gl b) = .gl b := (rfl)
@[simp] theorem seen_tup (l : List T) : seen h (.tup l) = .tup l := (rfl)
@[simp] theorem seen_lst (l : List T) : seen h (.lst l) = .lst l := (rfl)
@[simp] theorem seen_slst (l : List T) : seen h (.slst l) = .slst l := (rfl)
@[simp] theorem seen_dct (l : List (L2.Key × T)) : seen h (.dct l) = .dct l := (rfl)
@[simp] theorem seen_ins (c : Str) (l : List (Str × T)) : seen h (.ins c l) = .ins c l := (rfl)
def seenO (n : Nat) : Option HOb → T
  | some (.lst l) => .lst l
  | some (.dct l) => .dct l
  | _ => .ref n
@[simp] theorem seen_ref (n : Nat) : seen h (.ref n) = seenO n h[n]? := by
  unfold seen seenO; rfl
@[simp] theorem seenO_lst (n : Nat) (l : List T) : seenO n (some (.lst l)) = .lst l := (rfl)
@[simp] theorem seenO_dct (n : Nat) (l : List (L2.Key × T)) : seenO n (some (.dct l)) = .dct l := (rfl)
@[simp] theorem seenO_ins (n : Nat) (c : Str) (l : List (Str × T)) : seenO n (some (.ins c l)) = .ref n := (rfl)
@[simp] theorem evO_no : evO Γ .no σ h = .ok none h := by rw [evO]
def intL (x : R) (h : Hs) : Out (Option Int) := match x with
  | .v (.int i) => .ok (some i) h
  | _ => .bad
@[simp] theorem intL_int (i : Int) : intL (.v (.int i)) h = .ok (some i) h := (rfl)
@[simp] theorem evO_at (e : E) : evO Γ (.at e) σ h = (evE Γ e σ h).bind intL := by rw [evO]; rfl
@[simp] theorem walkL_al (own : Bool) (l : List T) : walkL own σ h (.al l) = some ⟨l, none⟩ := (rfl)
@[simp] theorem walkL_v (own : Bool) (t : T) : walkL own σ h (.v t) = walkT h t := (rfl)
@[simp] theorem walkT_lst (l : List T) : walkT h (.lst l) = some ⟨l, none⟩ := (rfl)
@[simp] theorem walkT_slst (l : List T) : walkT h (.slst l) = some ⟨l, none⟩ := (rfl)
@[simp] theorem walkT_tup (l : List T) : walkT h (.tup l) = some ⟨l, none⟩ := (rfl)
theorem walkT_ref {n : Nat} {l : List T} (e : h[n]? = some (.lst l)) : walkT h (.ref n) = some ⟨l, some (n, .lst l)⟩ := by simp [walkT, e]
@[simp] theorem gdB_none : gdB none h = true := (rfl)
theorem gdB_lst {n : Nat} {l : List T} (e : h[n]? = some (.lst l)) : gdB (some (n, .lst l)) h = true := by simp [gdB, e, HOb.beq, Ts.beq_rfl]
@[simp] theorem evIt_e (own : Bool) (x : E) : evIt Γ own (.e x) σ h = (evE Γ x σ h).bind fun r h1 => lift (walkL own σ h1 r) h1 := by rw [evIt]
/-- the items, nothing that must stay -/
abbrev itm (l : List T) : Itm := ⟨l, none⟩
def rg1L (x : R) (h : Hs) : Out Itm := match x with
  | .v (.int j) => lift ((rngT 0 j).map fun l => itm l) h
  | _ => .bad
@[simp] theorem rg1L_int (j : Int) : rg1L (.v (.int j)) h = lift ((rngT 0 j).map fun l => itm l) h := (rfl)
@[simp] theorem evIt_r1 (own : Bool) (a : E) : evIt Γ own (.r1 a) σ h = (evE Γ a σ h).bind rg1L := by rw [evIt]; rfl
def rg2L (r s : R) (h : Hs) : Out Itm := match r, s with
  | .v (.int i), .v (.int j) => lift ((rngT i j).map fun l => itm l) h
  | _, _ => .bad
@[simp] theorem rg2L_int (i j : Int) : rg2L (.v (.int i)) (.v (.int j)) h = lift ((rngT i j).map fun l => itm l) h := (rfl)
@[simp] theorem evIt_r2 (own : Bool) (a b : E) : evIt Γ own (.r2 a b) σ h = (evE Γ a σ h).bind fun r h1 => (evE Γ b σ h1).bind fun s h2 => rg2L r s h2 := by rw [evIt]; rfl
@[simp] theorem evS_asg (i : Nat) (e : E) : evS Γ (.asg i e) σ h = sb σ (evE Γ e σ h) fun r h1 => liftS ((putR r).map fun s => σ.set i (some s)) h1 := by rw [evS]
@[simp] theorem evS_asgT (tg : Tg) (e : E) : evS Γ (.asgT tg e) σ h = sb σ (evE Γ e σ h) fun r h1 => liftS ((frz r).bind fun t => asgT tg (tgSee tg h1 t) σ) h1 := by rw [evS]
def setS (σ : Slots) (o : Option Hs) : SO := match o with
  | some h4 => .ok .nx σ h4
  | none => .bad
@[simp] theorem setS_some (h4 : Hs) : setS σ (some h4) = .ok .nx σ h4 := (rfl)
@[simp] theorem evS_setIx (o i e : E) : evS Γ (.setIx o i e) σ h = sb σ (evE Γ e σ h) fun r h1 => sb σ (evE Γ o σ h1) fun x h2 => sb σ (evE Γ i σ h2) fun y h3 => setS σ (setL r x y h3) := by rw [evS]; rfl
@[simp] theorem evS_expr (e : E) : evS Γ (.expr e) σ h = sb σ (evE Γ e σ h) fun _ h1 => .ok .nx σ h1 := by rw [evS]
@[simp] theorem evS_ret (e : E) : evS Γ (.ret e) σ h = sb σ (evE Γ e σ h) fun r h1 => retS σ r h1 := by rw [evS]
def rtS (i : Nat) (σ : Slots) (o : Option (Option Sl)) (h : Hs) : SO := match o with
  | some (some (.al l)) => .ok (.ret (.al l)) (σ.set i none) h
  | _ => .bad
@[simp] theorem rtS_al (i : Nat) (l : List T) : rtS i σ (some (some (.al l))) h = .ok (.ret (.al l)) (σ.set i none) h := (rfl)
@[simp] theorem evS_retS (i : Nat) : evS Γ (.retS i) σ h = rtS i σ σ[i]? h := by rw [evS]; rfl
@[simp] theorem evS_retN : evS Γ .retN σ h = .ok (.ret (.v .non)) σ h := by rw [evS]
@[simp] theorem evS_ife (c : C) (a b : List S) : evS Γ (.ife c a b) σ h = sb σ (evC Γ c σ h) fun k h1 => if k then evSs Γ a σ h1 else evSs Γ b σ h1 := by rw [evS]
/-- a loop's turn -/
def forB (Γ : Ctx) (tg : Tg) (body : List S) : T → Slots → Hs → SO := fun x σ' h' => (liftS (asgT tg x σ') h').seq (evSs Γ body)
theorem forB_nm (i : Nat) (body : List S) (x : T) : forB Γ (.nm i) body x σ h = evSs Γ body (σ.set i (some (.v x))) h := by unfold forB; rw [asgT]; rfl
@[simp] theorem evS_for (tg : Tg) (it : It) (body : List S) : evS Γ (.for tg it body) σ h = sb σ (evIt Γ false it σ h) fun p h1 => forL (forB Γ tg body) p.g p.ts σ h1 := by rw [evS]; rfl
@[simp] theorem evS_whl (c : C) (body : List S) : evS Γ (.whl c body) σ h = whlL (evC Γ c) (evSs Γ body) whlMost σ h := by rw [evS]
@[simp] theorem evS_brk : evS Γ .brk σ h = .ok .brk σ h := by rw [evS]
@[simp] theorem evS_cnt : evS Γ .cnt σ h = .ok .ct σ h := by rw [evS]
@[simp] theorem evS_pass : evS Γ .pass σ h = .ok .nx σ h := by rw [evS]
@[simp] theorem evS_try1 (x : String) (body suite : List S) : evS Γ (.try1 x body suite) σ h = (evSs Γ body σ h).catch x (evSs Γ suite) := by rw [evS]
@[simp] theorem tgSee_nm (i : Nat) (t : T) : tgSee (.nm i) h t = t := (rfl)
@[simp] theorem tgSee_tp (l : List Tg) (t : T) : tgSee (.tp l) h t = seen h t := (rfl)
@[simp] theorem asgT_tpl (l : List Tg) (ts : List T) : asgT (.tp l) (.lst ts) σ = asgTs l ts σ := by rw [asgT]
@[simp] theorem evS_app (i : Nat) (e : E) : evS Γ (.app i e) σ h = if appOk h σ[i]? then sb σ (evE Γ e σ h) fun r h1 => appS σ i r h1 else .bad := by rw [evS]
@[simp] theorem evS_par2 (i j : Nat) (a b : E) : evS Γ (.par2 i j a b) σ h = sb σ (evE Γ a σ h) fun r h1 => sb σ (evE Γ b σ h1) fun s h2 => liftS ((putR r).bind fun x => (putR s).map fun y => (σ.set i (some x)).set j (some y)) h2 := by rw [evS]
@[simp] theorem evS_par3 (i j l : Nat) (a b c : E) : evS Γ (.par3 i j l a b c) σ h = sb σ (evE Γ a σ h) fun r h1 => sb σ (evE Γ b σ h1) fun s h2 => sb σ (evE Γ c σ h2) fun t h3 =>
      liftS ((putR r).bind fun x => (putR s).bind fun y => (putR t).map fun z => ((σ.set i (some x)).set j (some y)).set l (some z)) h3 := by rw [evS]
def fzS (i : Nat) (σ : Slots) (o : Option (Option Sl)) (h : Hs) : SO := match o with
  | some (some (.al l)) => .ok .nx (σ.set i (some (.v (.lst l)))) h
  | _ => .bad
@[simp] theorem fzS_al (i : Nat) (l : List T) : fzS i σ (some (some (.al l))) h = .ok .nx (σ.set i (some (.v (.lst l)))) h := (rfl)
@[simp] theorem evS_fz (i : Nat) : evS Γ (.fz i) σ h = fzS i σ σ[i]? h := by rw [evS]; rfl
def prS (i : Nat) (σ : Slots) (o : Option (Option Sl)) (h : Hs) : SO := match o with
  | some (some (.al l)) => .ok .nx (σ.set i (some (.v (.ref h.length)))) (h ++ [.lst l])
  | _ => .bad
@[simp] theorem prS_al (i : Nat) (l : List T) : prS i σ (some (some (.al l))) h = .ok .nx (σ.set i (some (.v (.ref h.length)))) (h ++ [.lst l]) := (rfl)
@[simp] theorem evS_pr (i : Nat) : evS Γ (.pr i) σ h = prS i σ σ[i]? h := by rw [evS]; rfl
@[simp] theorem evSs_nil : evSs Γ [] σ h = .ok .nx σ h := by rw [evSs]
@[simp] theorem evSs_cons (s : S) (ss : List S) : evSs Γ (s :: ss) σ h = (evS Γ s σ h).seq (evSs Γ ss) := by rw [evSs]
@[simp] theorem putR_v (t : T) : putR (.v t) = some (.v t) := (rfl)
@[simp] theorem putR_al (l : List T) : putR (.al l) = some (.al l) := (rfl)
@[simp] theorem frz_v (t : T) : frz (.v t) = some t := (rfl)
@[simp] theorem frz_al (l : List T) : frz (.al l) = some (.lst l) := (rfl)
@[simp] theorem retS_v (t : T) : retS σ (.v t) h = .ok (.ret (.v t)) σ h := (rfl)
@[simp] theorem retS_al (l : List T) : retS σ (.al l) h = .ok (.ret (.al l)) σ h := (rfl)
@[simp] theorem out_ret (r : R) : (SO.ok (.ret r) σ h).out = .ok r h := (rfl)
@[simp] theorem out_nx : (SO.ok .nx σ h).out = .ok (.v .non) h := (rfl)
@[simp] theorem out_ex (x : Xn) : (SO.ex x σ h).out = .ex x h := (rfl)
@[simp] theorem asgT_nm (i : Nat) (t : T) : asgT (.nm i) t σ = some (σ.set i (some (.v t))) := by rw [asgT]
@[simp] theorem asgT_tp (l : List Tg) (ts : List T) : asgT (.tp l) (.tup ts) σ = asgTs l ts σ := by rw [asgT]
@[simp] theorem asgTs_nil : asgTs [] [] σ = some σ := by rw [asgTs]
@[simp] theorem asgTs_cons (g : Tg) (l : List Tg) (t : T) (ts : List T) : asgTs (g :: l) (t :: ts) σ = (asgT g t σ).bind (asgTs l ts) := by
  rw [asgTs]; cases asgT g t σ <;> rfl
@[simp] theorem forL_nil (body : T → Slots → Hs → SO) : forL body none [] σ h = .ok .nx σ h := (rfl)
theorem forL_cons (body : T → Slots → Hs → SO) (x : T) (xs : List T) : forL body none (x :: xs) σ h = (body x σ h).turn (forL body none xs) := (rfl)
@[simp] theorem lcL_nil (f : T → Hs → Out (Option T)) (acc : List T) : lcL f none [] acc h = .ok acc h := (rfl)
@[simp] theorem opL_v (op : Operator) (t u : T) : opL σ op (.v t) (.v u) h = lift (opR op (seen h t) (seen h u)) h := (rfl)
@[simp] theorem opL_al (op : Operator) (l : List T) (u : T) : opL σ op (.al l) (.v u) h = lift (opR op (.lst l) (seen h u)) h := (rfl)
@[simp] theorem truL_v (t : T) : truL σ (.v t) h = lift (truT (seen h t)) h := (rfl)
@[simp] theorem truL_al (l : List T) : truL σ (.al l) h = .ok (!l.isEmpty) h := (rfl)
@[simp] theorem cmpL_v (op : CmpOp) (t u : T) : cmpL σ op (.v t) (.v u) h = lift (cmpR op (seen h t) (seen h u)) h := (rfl)
@[simp] theorem cmpL_va (op : CmpOp) (t : T) (l : List T) : cmpL σ op (.v t) (.al l) h = lift (cmpR op (seen h t) (.lst l)) h := (rfl)
@[simp] theorem cmpL_av (op : CmpOp) (t : T) (l : List T) : cmpL σ op (.al l) (.v t) h = lift (cmpR op (.lst l) (seen h t)) h := (rfl)
@[simp] theorem cmpL_aa (op : CmpOp) (l m : List T) : cmpL σ op (.al l) (.al m) h = lift (cmpR op (.lst l) (.lst m)) h := (rfl)
section
variable (wd : Str → Str → Option T)
@[simp] theorem ixL_ref (n : Nat) (u : T) : ixL wd σ (.v (.ref n)) (.v u) h = lift ((ixR (seen h (.ref n)) u).map .v) h := (rfl)
@[simp] theorem ixL_str (n : Str) (u : T) : ixL wd σ (.v (.str n)) (.v u) h = lift ((ixR (seen h (.str n)) u).map .v) h := (rfl)
@[simp] theorem ixL_tup (n : List T) (u : T) : ixL wd σ (.v (.tup n)) (.v u) h = lift ((ixR (seen h (.tup n)) u).map .v) h := (rfl)
@[simp] theorem ixL_lst (n : List T) (u : T) : ixL wd σ (.v (.lst n)) (.v u) h = lift ((ixR (seen h (.lst n)) u).map .v) h := (rfl)
@[simp] theorem ixL_slst (n : List T) (u : T) : ixL wd σ (.v (.slst n)) (.v u) h = lift ((ixR (seen h (.slst n)) u).map .v) h := (rfl)
@[simp] theorem ixL_dct (n : List (L2.Key × T)) (u : T) : ixL wd σ (.v (.dct n)) (.v u) h = lift ((ixR (seen h (.dct n)) u).map .v) h := (rfl)
@[simp] theorem ixL_al (l : List T) (u : T) : ixL wd σ (.al l) (.v u) h = lift ((ixR (.lst l) u).map .v) h := (rfl)
@[simp] theorem ixL_gl (g z : Str) : ixL wd σ (.v (.gl g)) (.v (.str z)) h = lift ((wd g z).map .v) h := (rfl)
theorem ixL_bw {j : Nat} {l : List T} (e : σ[j]? = some (some (.al l))) (u : T) : ixL wd σ (.bw j) (.v u) h = lift ((ixR (.lst l) u).map .v) h := by simp [ixL, peek, e]
end
@[simp] theorem ixR_dct (l : List (L2.Key × T)) (t : T) : ixR (.dct l) t = (keyT t).bind (lookT l) := by cases t <;> rfl
@[simp] theorem ixR_lst (l : List T) (i : Int) : ixR (.lst l) (.int i) = L2.atI l i := (rfl)
@[simp] theorem ixR_slst (l : List T) (i : Int) : ixR (.slst l) (.int i) = L2.atI l i := (rfl)
@[simp] theorem ixR_tup (l : List T) (i : Int) : ixR (.tup l) (.int i) = L2.atI l i := (rfl)
@[simp] theorem slL_v (t : T) (l u : Option Int) : slL σ (.v t) l u h = lift (slR (seen h t) l u) h := (rfl)
@[simp] theorem slL_al (t : List T) (l u : Option Int) : slL σ (.al t) l u h = .ok (.al (cutT t l u)) h := (rfl)
@[simp] theorem slR_lst (t : List T) (l u : Option Int) : slR (.lst t) l u = some (.al (cutT t l u)) := (rfl)
@[simp] theorem opR_add (i j : Int) : opR .Add (.int i) (.int j) = some (.v (.int (i + j))) := (rfl)
@[simp] theorem opR_sub (i j : Int) : opR .Sub (.int i) (.int j) = some (.v (.int (i - j))) := (rfl)
theorem opR_mul {i j : Int} (e : mulOk i j = true) : opR .Mult (.int i) (.int j) = some (.v (.int (i * j))) := if_pos e
theorem opR_div {i j : Int} (e : 0 < j) (l : j.natAbs.log2 < 9000) : opR .FloorDiv (.int i) (.int j) = some (.v (.int (i / j))) := by
  show (fdivT i j).map _ = _
  unfold fdivT; rw [if_pos ⟨e, l⟩]; rfl
theorem opR_mod {i j : Int} (e : 0 < j) : opR .Mod (.int i) (.int j) = some (.v (.int (i % j))) := by
  show (modT i j).map _ = _
  unfold modT; rw [if_pos e]; rfl
theorem opR_pow {i j : Int} (e : 0 ≤ j) (l : (Builtin.Int.intBits i : Int) * j ≤ 2 ^ 27) : opR .Pow (.int i) (.int j) = some (.v (.int (i ^ j.toNat))) := by
  show (powT i j).map _ = _
  unfold powT; rw [if_pos ⟨e, l⟩]; rfl
theorem mulOk_l {i j : Int} (a : -(2 ^ 64) < i) (b : i < 2 ^ 64) : mulOk i j = true := by unfold mulOk; rw [decide_eq_true ⟨a, b⟩]; rfl
theorem mulOk_r {i j : Int} (a : -(2 ^ 64) < j) (b : j < 2 ^ 64) : mulOk i j = true := by unfold mulOk; rw [decide_eq_true (p := _ ∧ j < 2 ^ 64) ⟨a, b⟩]; simp
@[simp] theorem cmpR_lt (i j : Int) : cmpR .Lt (.int i) (.int j) = some (decide (i < j)) := (rfl)
@[simp] theorem cmpR_le (i j : Int) : cmpR .LtE (.int i) (.int j) = some (decide (i ≤ j)) := (rfl)
@[simp] theorem cmpR_gt (i j : Int) : cmpR .Gt (.int i) (.int j) = some (decide (j < i)) := (rfl)
@[simp] theorem cmpR_ge (i j : Int) : cmpR .GtE (.int i) (.int j) = some (decide (j ≤ i)) := (rfl)
@[simp] theorem cmpR_is (t : T) : cmpR .Is t .non = some (match t with | .non => true | _ => false) := (rfl)
@[simp] theorem cmpR_isnot (t : T) : cmpR .IsNot t .non = some (match t with | .non => false | _ => true) := (rfl)
@[simp] theorem cmpR_eq (t u : T) : cmpR .Eq t u = eqT t u := (rfl)
@[simp] theorem cmpR_ne (t u : T) : cmpR .NotEq t u = (eqT t u).map (!·) := (rfl)
@[simp] theorem cmpR_in (t u : T) : cmpR .In t u = inT t u := (rfl)
@[simp] theorem cmpR_notin (t u : T) : cmpR .NotIn t u = (inT t u).map (!·) := (rfl)
@[simp] theorem truT_bl (b : Bool) : truT (.bl b) = some b := (rfl)
@[simp] theorem truT_int (i : Int) : truT (.int i) = some (i != 0) := (rfl)
@[simp] theorem truT_non : truT .non = some false := (rfl)
@[simp] theorem truT_lst (l : List T) : truT (.lst l) = some (!l.isEmpty) := (rfl)
@[simp] theorem truT_tup (l : List T) : truT (.tup l) = some (!l.isEmpty) := (rfl)
@[simp] theorem truT_slst (l : List T) : truT (.slst l) = some (!l.isEmpty) := (rfl)
@[simp] theorem items_lst (l : List T) : itemsT (.lst l) = some l := (rfl)
@[simp] theorem items_tup (l : List T) : itemsT (.tup l) = some l := (rfl)
@[simp] theorem items_slst (l : List T) : itemsT (.slst l) = some l := (rfl)
@[simp] theorem eqT_int (i j : Int) : eqT (.int i) (.int j) = some (decide (i = j)) := by
  simp [eqT, toD, SeqAt.shaped, PyData.canLay0, PyData.depth, PyData.eqv]
  rfl
@[simp] theorem eqT_bl (a b : Bool) : eqT (.bl a) (.bl b) = some (a == b) := by
  simp [eqT, toD, SeqAt.shaped, PyData.canLay0, PyData.depth, PyData.eqv]
@[simp] theorem eqT_bi (a : Bool) (j : Int) : eqT (.bl a) (.int j) = some (decide ((if a then 1 else 0) = j)) := by
  simp [eqT, toD, SeqAt.shaped, PyData.canLay0, PyData.depth, PyData.eqv]; rfl
@[simp] theorem eqT_nn : eqT .non .non = some true := by
  simp [eqT, toD, SeqAt.shaped, PyData.canLay0, PyData.depth, PyData.eqv]
@[simp] theorem eqT_ni (i : Int) : eqT .non (.int i) = some false := by
  simp [eqT, toD, SeqAt.shaped, PyData.canLay0, PyData.depth, PyData.eqv]
@[simp] theorem eqT_in (i : Int) : eqT (.int i) .non = some false := by
  simp [eqT, toD, SeqAt.shaped, PyData.canLay0, PyData.depth, PyData.eqv]
def setR (o : Option HOb) (n : Nat) (k : T) (t : T) (h : Hs) : Option Hs := match o, k with
    | some (.lst l), .int k => (L2.ixN l.length k).map fun j => h.set n (.lst (l.set j t))
    | some (.dct l), k => (keyT k).bind fun k => if l.length < SL then some (h.set n (.dct (putT l k t))) else none
    | _, _ => none
@[simp] theorem setR_lst (l : List T) (n : Nat) (k : Int) (t : T) : setR (some (.lst l)) n (.int k) t h = (L2.ixN l.length k).map fun j => h.set n (.lst (l.set j t)) := (rfl)
@[simp] theorem setR_dct (l : List (L2.Key × T)) (n : Nat) (k : T) (t : T) : setR (some (.dct l)) n k t h = (keyT k).bind fun k => if l.length < SL then some (h.set n (.dct (putT l k t))) else none := by cases k <;> rfl
@[simp] theorem setL_ref (t : T) (n : Nat) (k : T) : setL (.v t) (.v (.ref n)) (.v k) h = setR h[n]? n k t h := (rfl)
@[simp] theorem len_lst (l : List T) : bltR .len [.lst l] = some (.v (.int l.length)) := (rfl)
@[simp] theorem len_slst (l : List T) : bltR .len [.slst l] = some (.v (.int l.length)) := (rfl)
@[simp] theorem len_tup (l : List T) : bltR .len [.tup l] = some (.v (.int l.length)) := (rfl)
def absI (i : Int) : Int := if i < 0 then -i else i
@[simp] theorem abs_int (i : Int) : bltR .abs [.int i] = some (.v (.int (absI i))) := (rfl)
@[simp] theorem int_int (i : Int) : bltR .int [.int i] = some (.v (.int i)) := (rfl)
@[simp] theorem int_bl (b : Bool) : bltR .int [.bl b] = some (.v (.int (if b then 1 else 0))) := (rfl)
@[simp] theorem max_int (i j : Int) : bltR .max [.int i, .int j] = some (.v (.int (if j > i then j else i))) := (rfl)
@[simp] theorem min_int (i j : Int) : bltR .min [.int i, .int j] = some (.v (.int (if j < i then j else i))) := (rfl)
@[simp] theorem tuple_lst (l : List T) : bltR .tuple [.lst l] = some (.v (.tup l)) := (rfl)
@[simp] theorem list_lst (l : List T) : bltR .list [.lst l] = some (.al l) := (rfl)
@[simp] theorem pow_10_9 : opR .Pow (.int 10) (.int 9) = some (.v (.int 1000000000)) := by rw [opR_pow (by decide) (by decide)]; rfl
@[simp] theorem pow_10_18 : opR .Pow (.int 10) (.int 18) = some (.v (.int 1000000000000000000)) := by rw [opR_pow (by decide) (by decide)]; rfl
end
theorem runD_eq (Γ : Ctx) (d : FD) {ts : List T} (h : Hs) (e : ts.length = d.ps) : runD Γ d ts h = (evSs Γ d.body (startT d.n ts) h).out := if_pos e
theorem callK_eq {P : Pg} {k f : Nat} {d : FD} (e : P.ds[f]? = some d) (ts : List T) (h : Hs) : callK P (k + 1) f ts h = runD ⟨callK P k, P.gv, P.ix, P.wd⟩ d ts h := by
  rw [callK, e]
theorem forL_run {body : T → Slots → Hs → SO} (Inv : Nat → Slots → Hs → Prop) : ∀ (xs : List T) (k : Nat), (∀ i x, xs[i]? = some x → ∀ σ h, Inv (k + i) σ h → ∃ σ' h', (body x σ h = .ok .nx σ' h' ∨ body x σ h = .ok .ct σ' h') ∧ Inv (k + i + 1) σ' h') →
    ∀ σ h, Inv k σ h → ∃ σ' h', forL body none xs σ h = .ok .nx σ' h' ∧ Inv (k + xs.length) σ' h'
  | [], k, _, σ, h, q => ⟨σ, h, rfl, q⟩
  | x :: xs, k, step, σ, h, q => by
    obtain ⟨σ1, h1, e1, q1⟩ := step 0 x rfl σ h q
    obtain ⟨σ2, h2, e2, q2⟩ := forL_run Inv xs (k + 1) (fun i y e σ h q => by
      have := step (i + 1) y e σ h (by rw [show k + (i + 1) = k + 1 + i by omega]; exact q)
      rw [show k + (i + 1) + 1 = k + 1 + i + 1 by omega] at this
      exact this) σ1 h1 q1
    refine ⟨σ2, h2, ?_, by rw [List.length_cons, show k + (xs.length + 1) = k + 1 + xs.length by omega]; exact q2⟩
    rw [forL_cons]
    rcases e1 with e1 | e1 <;> rw [e1] <;> exact e2
theorem rng0 {j : Int} {n : Nat} (e : j = n) (hn : n < 2 ^ 62) : rngT 0 j = some ((List.range n).map fun k : Nat => .int k) := by
  subst e
  unfold rngT
  rw [if_pos (by omega)]
  simp
theorem rng_get {n i : Nat} {x : T} (e : ((List.range n).map fun k : Nat => T.int (k : Int))[i]? = some x) : x = .int (i : Int) ∧ i < n := by
  rw [List.getElem?_map] at e
  cases h : (List.range n)[i]? with
  | none => rw [h] at e; cases e
  | some j =>
    rw [h] at e
    cases e
    rw [List.getElem?_eq_some_iff] at h
    obtain ⟨h1, h2⟩ := h
    simp at h1 h2
    subst h2
    exact ⟨rfl, h1⟩
/-- range(max(lo, min(hi, len(x)))) -/
theorem it_lim (Γ : Ctx) (own : Bool) {i : Nat} {l : List T} {σ : Slots} (lo hi : Int) (h : Hs) (e : σ[i]? = some (some (.v (.slst l)))) (h0 : 0 ≤ lo) (h1 : lo ≤ hi) (h2 : hi < 2 ^ 62) :
    ∃ m : Nat, lo ≤ m ∧ (m : Int) ≤ hi ∧ evIt Γ own (.r1 (.blt .max [.c (.int lo), .blt .min [.c (.int hi), .blt .len [.var i]]])) σ h = .ok (itm ((List.range m).map fun k : Nat => .int k)) h := by
  obtain ⟨a, ha, ea⟩ : ∃ a : Nat, (a : Int) ≤ hi ∧ (if (l.length : Int) < hi then (l.length : Int) else hi) = (a : Int) := by
    by_cases c : (l.length : Int) < hi
    · exact ⟨l.length, by omega, if_pos c⟩
    · exact ⟨hi.toNat, by omega, by rw [if_neg c]; omega⟩
  obtain ⟨m, hm, hm2, em⟩ : ∃ m : Nat, lo ≤ m ∧ (m : Int) ≤ hi ∧ (if lo < (a : Int) then (a : Int) else lo) = (m : Int) := by
    by_cases c : lo < a
    · exact ⟨a, by omega, ha, if_pos c⟩
    · exact ⟨lo.toNat, by omega, by omega, by rw [if_neg c]; omega⟩
  refine ⟨m, hm, hm2, ?_⟩
  simp [e, ea, em, rng0 (rfl : (m : Int) = m) (by omega)]
end VY
namespace VY
open PySem
def takeB1 : List S := [.ife (.t (.cmp .Gt (.ix (.var 0) (.c (.int 0))) (.c (.int 0)))) [.asg 6 (.bin .Mod (.ix (.var 0) (.c (.int 0))) (.var 1)), .setIx (.var 0) (.c (.int 0)) (.bin .FloorDiv (.ix (.var 0) (.c (.int 0))) (.var 1)), .ret (.var 6)] [], .asg 2 (.tup [.c (.int 2147483647), .c (.int 2147483629), .c (.int 2147483587), .c (.int 2147483579), .c (.int 2147483563), .c (.int 2147483549), .c (.int 2147483543), .c (.int 2147483497)]), .setIx (.var 0) (.c (.int 2)) (.bin .Add (.ix (.var 0) (.c (.int 2))) (.c (.int 1))), .asg 3 (.ix (.var 0) (.c (.int 2))), .asg 4 (.bin .Add (.bin .Add (.bin .Mult (.ix (.var 0) (.c (.int 1))) (.bin .Add (.bin .Mult (.c (.int 2)) (.var 3)) (.c (.int 1)))) (.bin .Mult (.bin .Mult (.c (.int 6121)) (.var 3)) (.var 3))) (.c (.int 37))), .asg 5 (.bin .Mod (.bin .Pow (.var 4) (.c (.int 3))) (.ix (.var 2) (.bin .Mod (.var 3) (.c (.int 8))))), .ret (.bin .Mod (.bin .FloorDiv (.bin .Mod (.bin .Mult (.var 5) (.bin .Add (.bin .FloorDiv (.var 5) (.c (.int 4093))) (.var 3))) (.ix (.var 2) (.bin .Mod (.bin .Add (.var 3) (.c (.int 3))) (.c (.int 8))))) (.c (.int 16))) (.var 1))]
theorem take1_pos (Γ : Ctx) {n : Nat} {g b c many : Int} {h : Hs} (e : h[n]? = some (.lst [.int g, .int b, .int c])) (hm : 0 < many) (hl : many.natAbs.log2 < 9000) (hg : 0 < g) :
    runD Γ ⟨2, 7, takeB1⟩ [.ref n, .int many] h = .ok (.v (.int (g % many))) (h.set n (.lst [.int (g / many), .int b, .int c])) := by
  have hn : n < h.length := (List.getElem?_eq_some_iff.mp e).1
  rw [runD_eq _ _ _ rfl]
  simp [takeB1, startT, e, L2.atI, L2.ixN, CT.t, hg, opR_mod hm, opR_div hm hl]
theorem bits_le {i : Int} {n : Nat} (h : i.natAbs < 2 ^ n) : Builtin.Int.intBits i ≤ n := by
  unfold Builtin.Int.intBits
  split
  · exact Nat.zero_le _
  · rename_i c
    have hz : i.natAbs ≠ 0 := fun z => c (by simpa using z)
    exact (Nat.log2_lt hz).mpr h
def primes1 : List T := [.int 2147483647, .int 2147483629, .int 2147483587, .int 2147483579, .int 2147483563, .int 2147483549, .int 2147483543, .int 2147483497]
def prm1 (x : Int) : Int := if x % 8 = 0 then 2147483647 else if x % 8 = 1 then 2147483629 else if x % 8 = 2 then 2147483587 else if x % 8 = 3 then 2147483579 else if x % 8 = 4 then 2147483563 else if x % 8 = 5 then 2147483549 else if x % 8 = 6 then 2147483543 else 2147483497
theorem prm1_at (x : Int) : L2.atI primes1 (x % 8) = some (.int (prm1 x)) := by
  have h1 : 0 ≤ x % 8 := Int.emod_nonneg _ (by decide)
  have h2 : x % 8 < 8 := Int.emod_lt_of_pos _ (by decide)
  unfold prm1
  generalize x % 8 = y at h1 h2
  have : y = 0 ∨ y = 1 ∨ y = 2 ∨ y = 3 ∨ y = 4 ∨ y = 5 ∨ y = 6 ∨ y = 7 := by omega
  rcases this with rfl | rfl | rfl | rfl | rfl | rfl | rfl | rfl <;> rfl
theorem prm1_pos (x : Int) : 0 < prm1 x ∧ prm1 x < 2 ^ 31 := by
  unfold prm1
  repeat' split
  all_goals decide
def found1 (b c : Int) : Int := (b * (2 * (c + 1) + 1) + 6121 * (c + 1) * (c + 1) + 37) ^ 3 % prm1 (c + 1)
def mixed1 (b c : Int) : Int := found1 b c * (found1 b c / 4093 + (c + 1)) % prm1 (c + 1 + 3) / 16
theorem take1_mix (Γ : Ctx) {n : Nat} {g b c many : Int} {h : Hs} (e : h[n]? = some (.lst [.int g, .int b, .int c])) (hm : 0 < many) (hg : ¬ 0 < g) (hb : 0 ≤ b) (hb2 : b < 2 ^ 63) (hc : 0 ≤ c) (hc2 : c < 2 ^ 20) :
    runD Γ ⟨2, 7, takeB1⟩ [.ref n, .int many] h = .ok (.v (.int (mixed1 b c % many))) (h.set n (.lst [.int g, .int b, .int (c + 1)])) := by
  have hn : n < h.length := (List.getElem?_eq_some_iff.mp e).1
  have p1 := prm1_pos (c + 1)
  have p2 := prm1_pos (c + 1 + 3)
  have f1 : 0 ≤ found1 b c := Int.emod_nonneg _ (by omega)
  have f2 : found1 b c < 2 ^ 31 := Int.lt_trans (Int.emod_lt_of_pos _ p1.1) p1.2
  have m1 : opR .Mult (.int b) (.int (2 * (c + 1) + 1)) = some (.v (.int (b * (2 * (c + 1) + 1)))) := opR_mul (mulOk_l (by omega) (by omega))
  have m2 : opR .Mult (.int 2) (.int (c + 1)) = some (.v (.int (2 * (c + 1)))) := opR_mul (mulOk_l (by decide) (by decide))
  have m3 : opR .Mult (.int 6121) (.int (c + 1)) = some (.v (.int (6121 * (c + 1)))) := opR_mul (mulOk_l (by decide) (by decide))
  have m4 : opR .Mult (.int (6121 * (c + 1))) (.int (c + 1)) = some (.v (.int (6121 * (c + 1) * (c + 1)))) := opR_mul (mulOk_r (by omega) (by omega))
  have bb : (b * (2 * (c + 1) + 1) + 6121 * (c + 1) * (c + 1) + 37).natAbs < 2 ^ 100 := by
    have q1 : b * (2 * (c + 1) + 1) ≤ 2 ^ 63 * 2 ^ 22 := Int.mul_le_mul (by omega) (by omega) (by omega) (by decide)
    have q2 : 6121 * (c + 1) * (c + 1) ≤ 6121 * 2 ^ 21 * 2 ^ 21 := Int.mul_le_mul (by omega) (by omega) (by omega) (by decide)
    have q3 : 0 ≤ b * (2 * (c + 1) + 1) := Int.mul_nonneg hb (by omega)
    have q4 : 0 ≤ 6121 * (c + 1) * (c + 1) := Int.mul_nonneg (by omega) (by omega)
    omega
  have pw : opR .Pow (.int (b * (2 * (c + 1) + 1) + 6121 * (c + 1) * (c + 1) + 37)) (.int 3) = some (.v (.int ((b * (2 * (c + 1) + 1) + 6121 * (c + 1) * (c + 1) + 37) ^ 3))) := opR_pow (by decide) (by have := bits_le bb; omega)
  have mm1 : opR .Mod (.int ((b * (2 * (c + 1) + 1) + 6121 * (c + 1) * (c + 1) + 37) ^ 3)) (.int (prm1 (c + 1))) = some (.v (.int (found1 b c))) := opR_mod p1.1
  have md : opR .FloorDiv (.int (found1 b c)) (.int 4093) = some (.v (.int (found1 b c / 4093))) := opR_div (by decide) (by decide)
  have m5 : opR .Mult (.int (found1 b c)) (.int (found1 b c / 4093 + (c + 1))) = some (.v (.int (found1 b c * (found1 b c / 4093 + (c + 1))))) := opR_mul (mulOk_l (by omega) (by omega))
  have mm2 : opR .Mod (.int (found1 b c * (found1 b c / 4093 + (c + 1)))) (.int (prm1 (c + 1 + 3))) = some (.v (.int (found1 b c * (found1 b c / 4093 + (c + 1)) % prm1 (c + 1 + 3)))) := opR_mod p2.1
  have md2 : opR .FloorDiv (.int (found1 b c * (found1 b c / 4093 + (c + 1)) % prm1 (c + 1 + 3))) (.int 16) = some (.v (.int (mixed1 b c))) := opR_div (by decide) (by decide)
  have a1 : L2.atI primes1 ((c + 1) % 8) = some (.int (prm1 (c + 1))) := prm1_at _
  have a2 : L2.atI primes1 ((c + 1 + 3) % 8) = some (.int (prm1 (c + 1 + 3))) := prm1_at _
  have i0 : L2.atI [T.int g, T.int b, T.int c] 0 = some (.int g) := rfl
  have i2 : L2.atI [T.int g, T.int b, T.int c] 2 = some (.int c) := rfl
  have i2' : L2.atI [T.int g, T.int b, T.int (c + 1)] 2 = some (.int (c + 1)) := rfl
  have i1' : L2.atI [T.int g, T.int b, T.int (c + 1)] 1 = some (.int b) := rfl
  have ix : L2.ixN 3 2 = some 2 := rfl
  have m8 : ∀ i : Int, opR .Mod (.int i) (.int 8) = some (.v (.int (i % 8))) := fun i => opR_mod (by decide)
  have mf : opR .Mod (.int (mixed1 b c)) (.int many) = some (.v (.int (mixed1 b c % many))) := opR_mod hm
  have pr : ([.int 2147483647, .int 2147483629, .int 2147483587, .int 2147483579, .int 2147483563, .int 2147483549, .int 2147483543, .int 2147483497] : List T) = primes1 := rfl
  rw [runD_eq _ _ _ rfl]
  have hs : ∀ x, (h.set n x)[n]? = some x := fun x => List.getElem?_set_self hn
  have pl : primes1.length ≤ SL := by decide
  simp [takeB1, startT, e, CT.t, hg, hs, pl, i0, i2, i2', i1', ix, pr, a1, a2, m1, m2, m3, m4, pw, mm1, md, m5, mm2, md2, m8, mf]
/-- a bag of the first sort: k draws at most -/
structure Bag1 (h : Hs) (n k : Nat) : Prop where
  ex : ∃ g b c : Int, h[n]? = some (.lst [.int g, .int b, .int c]) ∧ 0 ≤ b ∧ b < 2 ^ 63 ∧ 0 ≤ c ∧ c ≤ k
/-- nothing but the n-th object has changed -/
structure Only1 (h h' : Hs) (n : Nat) : Prop where
  len : h'.length = h.length
  same : ∀ m, m ≠ n → h'[m]? = h[m]?
theorem Only1.set {h : Hs} {n : Nat} {o : HOb} : Only1 h (h.set n o) n := ⟨List.length_set .., fun m hm => List.getElem?_set_ne (Ne.symm hm)⟩
theorem Only1.refl {h : Hs} {n : Nat} : Only1 h h n := ⟨rfl, fun _ _ => rfl⟩
theorem Only1.trans {h h' h'' : Hs} {n : Nat} (a : Only1 h h' n) (b : Only1 h' h'' n) : Only1 h h'' n := ⟨b.len.trans a.len, fun m hm => (b.same m hm).trans (a.same m hm)⟩
theorem Bag1.le {h : Hs} {n k k' : Nat} (b : Bag1 h n k) (e : k ≤ k') : Bag1 h n k' := by
  obtain ⟨g, b, c, e1, e2, e3, e4, e5⟩ := b
  exact ⟨g, b, c, e1, e2, e3, e4, by omega⟩
theorem take1 (Γ : Ctx) {n k : Nat} {many : Int} {h : Hs} (bg : Bag1 h n k) (hm : 0 < many) (hl : many.natAbs.log2 < 9000) (hk : k < 2 ^ 20) :
    ∃ d h', runD Γ ⟨2, 7, takeB1⟩ [.ref n, .int many] h = .ok (.v (.int d)) h' ∧ 0 ≤ d ∧ d < many ∧ Bag1 h' n (k + 1) ∧ Only1 h h' n := by
  obtain ⟨g, b, c, e, hb, hb2, hc, hc2⟩ := bg
  have hn : n < h.length := (List.getElem?_eq_some_iff.mp e).1
  by_cases hg : 0 < g
  · exact ⟨_, _, take1_pos Γ e hm hl hg, Int.emod_nonneg _ (by omega), Int.emod_lt_of_pos _ hm, ⟨_, _, _, List.getElem?_set_self hn, hb, hb2, hc, by omega⟩, Only1.set⟩
  · exact ⟨_, _, take1_mix Γ e hm hg hb hb2 hc (by omega), Int.emod_nonneg _ (by omega), Int.emod_lt_of_pos _ hm, ⟨_, _, _, List.getElem?_set_self hn, hb, hb2, by omega, by omega⟩, Only1.set⟩
def bagT1 : List S := [.asg 3 (.bin .Mult (.blt .abs [.var 2]) (.blt .int [.cmp .GtE (.blt .abs [.var 2]) (.bin .Pow (.c (.int 10)) (.c (.int 18)))])), .ret (.lst [.var 3, .bin .Add (.bin .Add (.bin .Add (.bin .Mod (.var 2) (.bin .Add (.bin .Pow (.c (.int 10)) (.c (.int 18))) (.c (.int 9)))) (.bin .Mult (.bin .Mult (.c (.int 50021)) (.var 1)) (.var 1))) (.bin .Mult (.c (.int 7013)) (.var 1))) (.c (.int 19)), .c (.int 0)])]
def bagB1 : List S := .asg 2 (.c (.int 0)) :: .ife (.t (.cmp .Lt (.var 1) (.blt .len [.var 0]))) [.asg 2 (.ix (.var 0) (.var 1))] [] :: bagT1
theorem bag1_great (Γ : Ctx) (cell : Int) (a b x : Option Sl) (h : Hs) : ∃ g : Int, evE Γ (.bin .Mult (.blt .abs [.var 2]) (.blt .int [.cmp .GtE (.blt .abs [.var 2]) (.bin .Pow (.c (.int 10)) (.c (.int 18)))])) [a, b, some (.v (.int cell)), x] h = .ok (.v (.int g)) h := by
  simp
  generalize hz : (if 1000000000000000000 ≤ absI cell then (1 : Int) else 0) = z
  have hz2 : z = 0 ∨ z = 1 := by
    split at hz
    · exact .inr hz.symm
    · exact .inl hz.symm
  refine ⟨absI cell * z, ?_⟩
  rw [opR_mul (by rcases hz2 with rfl | rfl <;> exact mulOk_r (by decide) (by decide))]
  rfl
theorem bag1_tail (Γ : Ctx) {i : Nat} {h : Hs} (cell : Int) (a x : Option Sl) (hi : i ≤ 1000) :
    ∃ g b, (evSs Γ bagT1 [a, some (.v (.int i)), some (.v (.int cell)), x] h).out = .ok (.al [.int g, .int b, .int 0]) h ∧ 0 ≤ b ∧ b < 2 ^ 63 := by
  have md : opR .Mod (.int cell) (.int 1000000000000000009) = some (.v (.int (cell % 1000000000000000009))) := opR_mod (by decide)
  have m1 : opR .Mult (.int 50021) (.int i) = some (.v (.int (50021 * i))) := opR_mul (mulOk_l (by decide) (by decide))
  have m2 : opR .Mult (.int (50021 * i)) (.int i) = some (.v (.int (50021 * i * i))) := opR_mul (mulOk_r (by omega) (by omega))
  have m3 : opR .Mult (.int 7013) (.int i) = some (.v (.int (7013 * i))) := opR_mul (mulOk_l (by decide) (by decide))
  have q1 : 0 ≤ cell % 1000000000000000009 := Int.emod_nonneg _ (by decide)
  have q2 : cell % 1000000000000000009 < 1000000000000000009 := Int.emod_lt_of_pos _ (by decide)
  have q3 : (50021 * (i : Int) * i) ≤ 50021 * 1000 * 1000 := Int.mul_le_mul (by omega) (by omega) (by omega) (by decide)
  have q4 : 0 ≤ (50021 * (i : Int) * i) := Int.mul_nonneg (by omega) (by omega)
  obtain ⟨g, hg⟩ := bag1_great Γ cell a (some (.v (.int i))) x h
  refine ⟨g, cell % 1000000000000000009 + 50021 * i * i + 7013 * i + 19, ?_, by omega, by omega⟩
  have sl : (3 : Nat) ≤ SL := by decide
  unfold bagT1
  rw [evSs_cons, evS_asg, hg]
  simp [md, m1, m2, m3, sl]
theorem atI_nat {α : Type} {l : List α} {i : Nat} (h : i < l.length) : L2.atI l (i : Int) = some l[i] := by
  unfold L2.atI L2.ixN
  rw [if_pos (by omega), if_pos (by omega)]
  simp
theorem bag1 (Γ : Ctx) (ns : List Int) {i : Nat} (h : Hs) (hi : i ≤ 1000) : ∃ g b, runD Γ ⟨2, 4, bagB1⟩ [.slst (ns.map .int), .int i] h = .ok (.al [.int g, .int b, .int 0]) h ∧ 0 ≤ b ∧ b < 2 ^ 63 := by
  rw [runD_eq _ _ _ rfl]
  by_cases hc : i < ns.length
  · obtain ⟨g, b, e, q⟩ := bag1_tail Γ (i := i) (h := h) ns[i] (some (.v (.slst (ns.map .int)))) none hi
    refine ⟨g, b, ?_, q⟩
    rw [← e]
    have at_ : L2.atI (ns.map T.int) (i : Int) = some (.int ns[i]) := by rw [atI_nat (by simpa using hc)]; simp
    have lt : (i : Int) < ns.length := by omega
    unfold bagB1
    simp [startT, hc, at_]
  · obtain ⟨g, b, e, q⟩ := bag1_tail Γ (i := i) (h := h) 0 (some (.v (.slst (ns.map .int)))) none hi
    refine ⟨g, b, ?_, q⟩
    rw [← e]
    unfold bagB1
    simp [startT, hc]
end VY
namespace VY
open PySem
/-- t is a list with these items, kept or in the heap -/
def Ls (h : Hs) (t : T) (l : List T) : Prop := t = .lst l ∨ ∃ n, t = .ref n ∧ h[n]? = some (.lst l)
theorem Ls.seen {h : Hs} {t : T} {l : List T} (a : Ls h t l) : VY.seen h t = .lst l := by
  rcases a with rfl | ⟨n, rfl, e⟩
  · rfl
  · rw [seen_ref, e]; rfl
theorem Ls.walk {h : Hs} {t : T} {l : List T} (a : Ls h t l) : ∃ g, walkT h t = some ⟨l, g⟩ ∧ gdB g h = true := by
  rcases a with rfl | ⟨n, rfl, e⟩
  · exact ⟨none, rfl, rfl⟩
  · exact ⟨_, walkT_ref h e, gdB_lst h e⟩
/-- nothing that stood has changed -/
def Gr (h h' : Hs) : Prop := ∃ e, h' = h ++ e
theorem Gr.refl {h : Hs} : Gr h h := ⟨[], by simp⟩
theorem Gr.trans {a b c : Hs} (x : Gr a b) (y : Gr b c) : Gr a c := by
  obtain ⟨e, rfl⟩ := x
  obtain ⟨f, rfl⟩ := y
  exact ⟨e ++ f, by simp⟩
theorem Gr.push {h : Hs} {o : HOb} : Gr h (h ++ [o]) := ⟨[o], rfl⟩
theorem Gr.get {h h' : Hs} (x : Gr h h') {n : Nat} {o : HOb} (e : h[n]? = some o) : h'[n]? = some o := by
  obtain ⟨f, rfl⟩ := x
  rw [List.getElem?_append_left (List.getElem?_eq_some_iff.mp e).1]
  exact e
theorem Gr.set_end {h : Hs} {o o' : HOb} : (h ++ [o]).set h.length o' = h ++ [o'] := by simp
theorem Ls.grow {h h' : Hs} {t : T} {l : List T} (a : Ls h t l) (g : Gr h h') : Ls h' t l := by
  rcases a with rfl | ⟨n, rfl, e⟩
  · exact .inl rfl
  · exact .inr ⟨n, rfl, g.get e⟩
theorem Bag1.grow {h h' : Hs} {n k : Nat} (b : Bag1 h n k) (g : Gr h h') : Bag1 h' n k := by
  obtain ⟨x, y, z, e, q⟩ := b
  exact ⟨x, y, z, g.get e, q⟩
theorem intsOf_map : ∀ ns : List Int, intsOf (ns.map .int) = some ns
  | [] => rfl
  | n :: ns => by rw [List.map_cons, intsOf, intsOf_map ns]; rfl
theorem blsOf_map : ∀ ns : List Bool, blsOf (ns.map .bl) = some ns
  | [] => rfl
  | n :: ns => by rw [List.map_cons, blsOf, blsOf_map ns]; rfl
theorem minI_some : ∀ {ns : List Int}, ns ≠ [] → ∃ m, minI ns = some m
  | [], h => (h rfl).elim
  | [a], _ => ⟨a, rfl⟩
  | a :: b :: r, _ => by
    obtain ⟨m, e⟩ := minI_some (ns := b :: r) (by simp)
    exact ⟨if m < a then m else a, by rw [minI, e]; rfl; simp⟩
theorem maxI_some : ∀ {ns : List Int}, ns ≠ [] → ∃ m, maxI ns = some m
  | [], h => (h rfl).elim
  | [a], _ => ⟨a, rfl⟩
  | a :: b :: r, _ => by
    obtain ⟨m, e⟩ := maxI_some (ns := b :: r) (by simp)
    exact ⟨if a < m then m else a, by rw [maxI, e]; rfl; simp⟩
def nubS (σ : List Int) (k : Int) : List Int := if σ.any (· == k) then σ else σ ++ [k]
theorem nub_le : ∀ (r σ : List Int), σ.length ≤ (r.foldl nubS σ).length
  | [], σ => Nat.le_refl _
  | k :: r, σ => by
    rw [List.foldl_cons]
    refine Nat.le_trans ?_ (nub_le r _)
    unfold nubS
    split
    · exact Nat.le_refl _
    · rw [List.length_append]; omega
theorem nub_one (a : Int) : ∀ r : List Int, decide ((r.foldl nubS [a]).length = 1) = r.all fun x => decide (x = a)
  | [] => rfl
  | x :: r => by
    rw [List.foldl_cons, List.all_cons]
    by_cases c : x = a
    · subst c
      have : nubS [x] x = [x] := by unfold nubS; simp
      rw [this, nub_one x r]
      simp
    · have e : nubS [a] x = [a, x] := by
        unfold nubS
        have : ([a].any fun z => z == x) = false := by simpa using fun z => c z.symm
        rw [this]; rfl
      rw [e]
      have := nub_le r [a, x]
      simp only [List.length_cons, List.length_nil] at this
      rw [decide_eq_false c, decide_eq_false (by omega)]
      rfl
theorem nubI_one (a : Int) (r : List Int) : decide ((nubI (a :: r)).length = 1) = (a :: r).all fun x => decide (x = a) := by
  have e : nubI (a :: r) = r.foldl nubS [a] := rfl
  rw [e, nub_one, List.all_cons, decide_eq_true rfl]
  rfl
/-- a letter, or none -/
def optT : Option Int → T
  | some i => .int i
  | none => .non
def optD : Option Int → PyData
  | some i => .int i
  | none => .none
theorem toD_opt (o : Option Int) : toD (optT o) = some (optD o) := by cases o <;> simp [optT, optD, toD]
theorem toDs_opt : ∀ L : List (Option Int), toDs (L.map optT) = some (L.map optD)
  | [] => by simp [toDs]
  | o :: L => by rw [List.map_cons, toDs, toD_opt, toDs_opt L]; rfl
theorem lay_opt : ∀ L : List (Option Int), PyData.canLayAll0 (L.map optD) = true ∧ PyData.depthAll (L.map optD) = 0
  | [] => by simp [PyData.canLayAll0, PyData.depthAll]
  | o :: L => by
    obtain ⟨a, b⟩ := lay_opt L
    cases o <;> simp [PyData.canLayAll0, PyData.depthAll, PyData.canLay0, PyData.depth, optD, a, b]
theorem shp_opt (L : List (Option Int)) : SeqAt.shaped (.list (L.map optD)) = true := by
  obtain ⟨a, b⟩ := lay_opt L
  simp [SeqAt.shaped, PyData.canLay0, PyData.depth, a, b]
theorem shp_opt1 (o : Option Int) : SeqAt.shaped (optD o) = true := by cases o <;> simp [SeqAt.shaped, PyData.canLay0, PyData.depth, optD]
theorem eqv_opt (o p : Option Int) : PyData.eqv (optD o) (optD p) = decide (o = p) := by
  cases o <;> cases p <;> simp [optD, PyData.eqv]
  rfl
theorem eqT_opt (o p : Option Int) : eqT (optT o) (optT p) = some (decide (o = p)) := by
  unfold eqT
  rw [toD_opt, toD_opt]
  simp [shp_opt1, eqv_opt]
theorem in_opt (L : List (Option Int)) : inT .non (.lst (L.map optT)) = some (L.any fun o => o.isNone) := by
  have e : toD .non = some .none := by simp [toD]
  show (match toD .non, toDs (L.map optT) with | some d, some ds => if SeqAt.shaped d && SeqAt.shaped (.list ds) then some (ds.any fun z => PyData.eqv z d) else none | _, _ => none) = _
  rw [e, toDs_opt]
  have s0 : SeqAt.shaped .none = true := shp_opt1 none
  simp only [s0, shp_opt, Bool.and_self, if_true]
  congr 1
  rw [List.any_map]
  congr 1
  funext o
  exact (eqv_opt o none).trans (by cases o <;> rfl)
theorem eqvs_opt : ∀ L M : List (Option Int), PyData.eqv (.list (L.map optD)) (.list (M.map optD)) = decide (L = M)
  | [], [] => by simp [PyData.eqv, PyData.eqvAll]
  | [], _ :: _ => by simp [PyData.eqv, PyData.eqvAll]
  | _ :: _, [] => by simp [PyData.eqv, PyData.eqvAll]
  | o :: L, p :: M => by
    have ih := eqvs_opt L M
    simp only [PyData.eqv] at ih
    simp only [List.map_cons, PyData.eqv, PyData.eqvAll, ih, eqv_opt]
    by_cases c : o = p <;> by_cases c' : L = M <;> simp [c, c']
theorem eqL_opt (L M : List (Option Int)) : eqT (.lst (L.map optT)) (.lst (M.map optT)) = some (decide (L = M)) := by
  have e : ∀ L : List (Option Int), toD (.lst (L.map optT)) = some (.list (L.map optD)) := fun L => by rw [toD, toDs_opt]; rfl
  unfold eqT
  rw [e, e]
  simp [shp_opt, eqvs_opt]
theorem ints_opt (ns : List Int) : (ns.map some).map optT = ns.map T.int := by simp [optT]
/-- all are there -/
theorem opt_all : ∀ {L : List (Option Int)}, (L.any fun o => o.isNone) = false → ∃ ns : List Int, L = ns.map some
  | [], _ => ⟨[], rfl⟩
  | none :: L, h => by simp at h
  | some n :: L, h => by
    obtain ⟨ns, rfl⟩ := opt_all (L := L) (by simpa using h)
    exact ⟨n :: ns, rfl⟩
theorem forL_stay {body : T → Slots → Hs → SO} {g : Option (Nat × HOb)} {h : Hs} (hg : gdB g h = true) (Inv : Nat → Slots → Prop) : ∀ (xs : List T) (k : Nat), (∀ i x, xs[i]? = some x → ∀ σ, Inv (k + i) σ → ∃ σ', body x σ h = .ok .nx σ' h ∧ Inv (k + i + 1) σ') →
    ∀ σ, Inv k σ → ∃ σ', forL body g xs σ h = .ok .nx σ' h ∧ Inv (k + xs.length) σ'
  | [], k, _, σ, q => ⟨σ, by rw [forL, if_pos hg], q⟩
  | x :: xs, k, step, σ, q => by
    obtain ⟨σ1, e1, q1⟩ := step 0 x rfl σ q
    obtain ⟨σ2, e2, q2⟩ := forL_stay hg Inv xs (k + 1) (fun i y e σ q => by
      have := step (i + 1) y e σ (by rw [show k + (i + 1) = k + 1 + i by omega]; exact q)
      rw [show k + (i + 1) + 1 = k + 1 + i + 1 by omega] at this
      exact this) σ1 q1
    refine ⟨σ2, ?_, by rw [List.length_cons, show k + (xs.length + 1) = k + 1 + xs.length by omega]; exact q2⟩
    rw [forL, if_pos hg, e1]
    exact e2
theorem lcL_map {f : T → Hs → Out (Option T)} {g : Option (Nat × HOb)} {h : Hs} (F : T → T) (hg : gdB g h = true) : ∀ (xs acc : List T), (∀ x ∈ xs, f x h = .ok (some (F x)) h) → acc.length + xs.length ≤ SL → lcL f g xs acc h = .ok (acc ++ xs.map F) h
  | [], acc, _, _ => by rw [lcL, if_pos hg]; simp
  | x :: xs, acc, hf, hl => by
    simp only [List.length_cons] at hl
    rw [lcL, if_pos hg, hf x (by simp), Out.bind_ok]
    simp only []
    rw [if_pos (by omega), lcL_map F hg xs _ (fun y hy => hf y (by simp [hy])) (by simp; omega)]
    simp
end VY
namespace K02
open VY PySem L2
abbrev rowb : List Stmt := PySem.Challenge.pw_oweback_k02_folds_made.main.body
def st (i : Nat) : Stmt := rowb.getD i (.Pass ⟨0, 0, 0, 0⟩)
/-- is_whole(thing): 0 thing -/
def b0 : List S := [.ret (.bop .And [.blt .isinstance [.var 0, .gl 0], .not (.blt .isinstance [.var 0, .gl 1])])]
def f0 : FD := ⟨1, 1, b0⟩
def F0 : FnD := ⟨⟨("is_whole", none), "is_whole", "is_whole", L2.defArgs (st 2), L2.defBody (st 2), L2.defScope (st 2), [], []⟩, ["thing"], ["thing"], f0, fun _ _ _ _ _ _ us hl => match us, hl with | [_], _ => rfl⟩
/-- is_letter(thing): 0 thing -/
def b1 : List S := [.ret (.bop .Or [.cmp .Is (.var 0) (.c .non), .bop .And [.call 0 [.var 0], .ch .LtE .LtE (.neg (.gl 2)) (.var 0) (.gl 2)]])]
def f1 : FD := ⟨1, 1, b1⟩
def F1 : FnD := ⟨⟨("is_letter", none), "is_letter", "is_letter", L2.defArgs (st 3), L2.defBody (st 3), L2.defScope (st 3), [], []⟩, ["thing"], ["thing"], f1, fun _ _ _ _ _ _ us hl => match us, hl with | [_], _ => rfl⟩
/-- total(letters): 0 letters -/
def b2 : List S := [.ret (.blt .sum [.var 0])]
def f2 : FD := ⟨1, 1, b2⟩
def F2 : FnD := ⟨⟨("total", none), "total", "total", L2.defArgs (st 4), L2.defBody (st 4), L2.defScope (st 4), [], []⟩, ["letters"], ["letters"], f2, fun _ _ _ _ _ _ us hl => match us, hl with | [_], _ => rfl⟩
/-- product(letters): 0 letters, 1 found, 2 letter -/
def b3 : List S := [.asg 1 (.c (.int 1)), .for (.nm 2) (.e (.var 0)) [.aug 1 .Mult (.var 2)], .ret (.var 1)]
def f3 : FD := ⟨1, 3, b3⟩
def F3 : FnD := ⟨⟨("product", none), "product", "product", L2.defArgs (st 5), L2.defBody (st 5), L2.defScope (st 5), [], []⟩, ["letters", "found", "letter"], ["letters"], f3, fun _ _ _ _ _ _ us hl => match us, hl with | [_], _ => rfl⟩
/-- lowest(letters): 0 letters -/
def b4 : List S := [.ret (.blt .min [.var 0])]
def f4 : FD := ⟨1, 1, b4⟩
def F4 : FnD := ⟨⟨("lowest", none), "lowest", "lowest", L2.defArgs (st 6), L2.defBody (st 6), L2.defScope (st 6), [], []⟩, ["letters"], ["letters"], f4, fun _ _ _ _ _ _ us hl => match us, hl with | [_], _ => rfl⟩
/-- highest(letters): 0 letters -/
def b5 : List S := [.ret (.blt .max [.var 0])]
def f5 : FD := ⟨1, 1, b5⟩
def F5 : FnD := ⟨⟨("highest", none), "highest", "highest", L2.defArgs (st 7), L2.defBody (st 7), L2.defScope (st 7), [], []⟩, ["letters"], ["letters"], f5, fun _ _ _ _ _ _ us hl => match us, hl with | [_], _ => rfl⟩
/-- all_alike(letters): 0 letters -/
def b6 : List S := [.ret (.blt .int [.cmp .Eq (.op .lns [.var 0]) (.c (.int 1))])]
def f6 : FD := ⟨1, 1, b6⟩
def F6 : FnD := ⟨⟨("all_alike", none), "all_alike", "all_alike", L2.defArgs (st 8), L2.defBody (st 8), L2.defScope (st 8), [], []⟩, ["letters"], ["letters"], f6, fun _ _ _ _ _ _ us hl => match us, hl with | [_], _ => rfl⟩
/-- difference(letters): 0 letters, 1 one, 2 other -/
def b7 : List S := [.asgT (.tp [.nm 1, .nm 2]) (.var 0), .ret (.bin .Sub (.var 1) (.var 2))]
def f7 : FD := ⟨1, 3, b7⟩
def F7 : FnD := ⟨⟨("difference", none), "difference", "difference", L2.defArgs (st 9), L2.defBody (st 9), L2.defScope (st 9), [], []⟩, ["letters", "one", "other"], ["letters"], f7, fun _ _ _ _ _ _ us hl => match us, hl with | [_], _ => rfl⟩
/-- quotient(letters): 0 letters -/
def b8 : List S := [.try1 "ZeroDivisionError" [.ret (.op .fdv [.ix (.var 0) (.c (.int 0)), .ix (.var 0) (.c (.int 1))])] [.ret (.c .non)]]
def f8 : FD := ⟨1, 1, b8⟩
def F8 : FnD := ⟨⟨("quotient", none), "quotient", "quotient", L2.defArgs (st 10), L2.defBody (st 10), L2.defScope (st 10), [], []⟩, ["letters"], ["letters"], f8, fun _ _ _ _ _ _ us hl => match us, hl with | [_], _ => rfl⟩
/-- remainder(letters): 0 letters, 1 one, 2 other -/
def b9 : List S := [.asgT (.tp [.nm 1, .nm 2]) (.var 0), .ret (.ife (.t (.cmp .Eq (.var 2) (.c (.int 0)))) (.c .non) (.bin .Mod (.var 1) (.var 2)))]
def f9 : FD := ⟨1, 3, b9⟩
def F9 : FnD := ⟨⟨("remainder", none), "remainder", "remainder", L2.defArgs (st 11), L2.defBody (st 11), L2.defScope (st 11), [], []⟩, ["letters", "one", "other"], ["letters"], f9, fun _ _ _ _ _ _ us hl => match us, hl with | [_], _ => rfl⟩
/-- is_less(letters): 0 letters, 1 one, 2 other -/
def b10 : List S := [.asgT (.tp [.nm 1, .nm 2]) (.var 0), .ret (.blt .int [.cmp .Lt (.var 1) (.var 2)])]
def f10 : FD := ⟨1, 3, b10⟩
def F10 : FnD := ⟨⟨("is_less", none), "is_less", "is_less", L2.defArgs (st 12), L2.defBody (st 12), L2.defScope (st 12), [], []⟩, ["letters", "one", "other"], ["letters"], f10, fun _ _ _ _ _ _ us hl => match us, hl with | [_], _ => rfl⟩
/-- made(word, letters): 0 word, 1 letters, 2 maker, 3 letter -/
def b11 : List S := [.ife (.t (.cmp .In (.c .non) (.var 1))) [.ret (.c .non)] [], .asg 2 (.ix (.gl 3) (.var 0)), .asg 3 (.callv 2 [.var 1]), .ret (.ife (.t (.call 1 [.var 3])) (.var 3) (.c .non))]
def f11 : FD := ⟨2, 4, b11⟩
def F11 : FnD := ⟨⟨("made", none), "made", "made", L2.defArgs (st 14), L2.defBody (st 14), L2.defScope (st 14), [], []⟩, ["word", "letters", "maker", "letter"], ["word", "letters"], f11, fun _ _ _ _ _ _ us hl => match us, hl with | [_, _], _ => rfl⟩
/-- _law_bag(_law_script, _law_at): 0 _law_script, 1 _law_at, 2 _law_cell, 3 _law_great -/
def b12 : List S := [.asg 2 (.c (.int 0)), .ife (.t (.cmp .Lt (.var 1) (.blt .len [.var 0]))) [.asg 2 (.ix (.var 0) (.var 1))] [], .asg 3 (.bin .Mult (.blt .abs [.var 2]) (.blt .int [.cmp .GtE (.blt .abs [.var 2]) (.bin .Pow (.c (.int 10)) (.c (.int 18)))])), .ret (.lst [.var 3, .bin .Add (.bin .Add (.bin .Add (.bin .Mod (.var 2) (.bin .Add (.bin .Pow (.c (.int 10)) (.c (.int 18))) (.c (.int 9)))) (.bin .Mult (.bin .Mult (.c (.int 50021)) (.var 1)) (.var 1))) (.bin .Mult (.c (.int 7013)) (.var 1))) (.c (.int 19)), .c (.int 0)])]
def f12 : FD := ⟨2, 4, b12⟩
def F12 : FnD := ⟨⟨("_law_bag", none), "_law_bag", "_law_bag", L2.defArgs (st 16), L2.defBody (st 16), L2.defScope (st 16), [], []⟩, ["_law_script", "_law_at", "_law_cell", "_law_great"], ["_law_script", "_law_at"], f12, fun _ _ _ _ _ _ us hl => match us, hl with | [_, _], _ => rfl⟩
/-- _law_take(_law_bag_here, _law_many): 0 _law_bag_here, 1 _law_many, 2 _law_primes, 3 _law_step, 4 _law_base, 5 _law_found, 6 _law_digit -/
def b13 : List S := [.ife (.t (.cmp .Gt (.ix (.var 0) (.c (.int 0))) (.c (.int 0)))) [.asg 6 (.bin .Mod (.ix (.var 0) (.c (.int 0))) (.var 1)), .setIx (.var 0) (.c (.int 0)) (.bin .FloorDiv (.ix (.var 0) (.c (.int 0))) (.var 1)), .ret (.var 6)] [], .asg 2 (.tup [.c (.int 2147483647), .c (.int 2147483629), .c (.int 2147483587), .c (.int 2147483579), .c (.int 2147483563), .c (.int 2147483549), .c (.int 2147483543), .c (.int 2147483497)]), .setIx (.var 0) (.c (.int 2)) (.bin .Add (.ix (.var 0) (.c (.int 2))) (.c (.int 1))), .asg 3 (.ix (.var 0) (.c (.int 2))), .asg 4 (.bin .Add (.bin .Add (.bin .Mult (.ix (.var 0) (.c (.int 1))) (.bin .Add (.bin .Mult (.c (.int 2)) (.var 3)) (.c (.int 1)))) (.bin .Mult (.bin .Mult (.c (.int 6121)) (.var 3)) (.var 3))) (.c (.int 37))), .asg 5 (.bin .Mod (.bin .Pow (.var 4) (.c (.int 3))) (.ix (.var 2) (.bin .Mod (.var 3) (.c (.int 8))))), .ret (.bin .Mod (.bin .FloorDiv (.bin .Mod (.bin .Mult (.var 5) (.bin .Add (.bin .FloorDiv (.var 5) (.c (.int 4093))) (.var 3))) (.ix (.var 2) (.bin .Mod (.bin .Add (.var 3) (.c (.int 3))) (.c (.int 8))))) (.c (.int 16))) (.var 1))]
def f13 : FD := ⟨2, 7, b13⟩
def F13 : FnD := ⟨⟨("_law_take", none), "_law_take", "_law_take", L2.defArgs (st 17), L2.defBody (st 17), L2.defScope (st 17), [], []⟩, ["_law_bag_here", "_law_many", "_law_primes", "_law_step", "_law_base", "_law_found", "_law_digit"], ["_law_bag_here", "_law_many"], f13, fun _ _ _ _ _ _ us hl => match us, hl with | [_, _], _ => rfl⟩
/-- _law_letter(_law_bag_here): 0 _law_bag_here, 1 _law_how -/
def b14 : List S := [.asg 1 (.call 13 [.var 0, .c (.int 12)]), .ife (.t (.cmp .Lt (.var 1) (.c (.int 9)))) [.ret (.call 13 [.var 0, .c (.int 4)])] [], .ife (.t (.cmp .Eq (.var 1) (.c (.int 9)))) [.ret (.bin .Sub (.call 13 [.var 0, .c (.int 41)]) (.c (.int 20)))] [], .ret (.ix (.lst [.c .non, .bin .Sub (.bin .Pow (.c (.int 10)) (.c (.int 9))) (.call 13 [.var 0, .c (.int 1000)]), .bin .Sub (.call 13 [.var 0, .c (.int 3)]) (.bin .Pow (.c (.int 10)) (.c (.int 9)))]) (.call 13 [.var 0, .c (.int 3)]))]
def f14 : FD := ⟨1, 2, b14⟩
def F14 : FnD := ⟨⟨("_law_letter", none), "_law_letter", "_law_letter", L2.defArgs (st 18), L2.defBody (st 18), L2.defScope (st 18), [], []⟩, ["_law_bag_here", "_law_how"], ["_law_bag_here"], f14, fun _ _ _ _ _ _ us hl => match us, hl with | [_], _ => rfl⟩
/-- _law_folded(_law_word, _law_letters): 0 _law_word, 1 _law_letters, 2 _law_some, 3 _law_found, 4 _law_one, 5 _law_other, 6 _law_letter_here -/
def b15 : List S := [.ife (.bop .Or [.t (.cmp .In (.c .non) (.var 1)), .bop .And [.t (.cmp .In (.var 0) (.tup [.c (.str "over"), .c (.str "rest")])), .t (.cmp .Eq (.ix (.var 1) (.c (.int 1))) (.c (.int 0)))]]) [.ret (.c .non)] [], .asgT (.tp [.nm 4, .nm 5]) (.tup [.ix (.var 1) (.c (.int 0)), .ix (.var 1) (.neg (.c (.int 1)))]), .asg 2 (.dsp [.c (.str "plus"), .blt .sum [.var 1], .c (.str "least"), .blt .min [.var 1], .c (.str "most"), .blt .max [.var 1], .c (.str "less"), .bin .Sub (.var 4) (.var 5)]), .setIx (.var 2) (.c (.str "same")) (.blt .int [.blt .all [.lc (.cmp .Eq (.var 6) (.var 4)) (.nm 6) (.e (.var 1)) .yes]]), .setIx (.var 2) (.c (.str "below")) (.blt .int [.cmp .Lt (.var 4) (.var 5)]), .asg 3 (.mth .get (.var 2) [.var 0, .c (.int 1)]), .ife (.t (.cmp .Eq (.var 0) (.c (.str "times")))) [.for (.nm 6) (.e (.var 1)) [.asg 3 (.bin .Mult (.var 3) (.var 6))]] [], .ife (.t (.cmp .In (.var 0) (.tup [.c (.str "over"), .c (.str "rest")]))) [.asg 3 (.ife (.t (.cmp .Eq (.var 0) (.c (.str "over")))) (.bin .FloorDiv (.var 4) (.var 5)) (.bin .Mod (.var 4) (.var 5)))] [], .ret (.ife (.t (.cmp .LtE (.blt .abs [.var 3]) (.bin .Pow (.c (.int 10)) (.c (.int 9))))) (.var 3) (.c .non))]
def f15 : FD := ⟨2, 7, b15⟩
def F15 : FnD := ⟨⟨("_law_folded", none), "_law_folded", "_law_folded", L2.defArgs (st 19), L2.defBody (st 19), L2.defScope (st 19), [], []⟩, ["_law_word", "_law_letters", "_law_some", "_law_found", "_law_one", "_law_other", "_law_letter_here"], ["_law_word", "_law_letters"], f15, fun _ _ _ _ _ _ us hl => match us, hl with | [_, _], _ => rfl⟩
/-- _law_whole(_law_thing): 0 _law_thing -/
def b16 : List S := [.ret (.bop .And [.blt .isinstance [.var 0, .gl 0], .not (.blt .isinstance [.var 0, .gl 1])])]
def f16 : FD := ⟨1, 1, b16⟩
def F16 : FnD := ⟨⟨("_law_whole", none), "_law_whole", "_law_whole", L2.defArgs (st 20), L2.defBody (st 20), L2.defScope (st 20), [], []⟩, ["_law_thing"], ["_law_thing"], f16, fun _ _ _ _ _ _ us hl => match us, hl with | [_], _ => rfl⟩
/-- _law_is_letter(_law_thing): 0 _law_thing -/
def b17 : List S := [.ret (.bop .Or [.cmp .Is (.var 0) (.c .non), .bop .And [.call 16 [.var 0], .ch .LtE .LtE (.neg (.bin .Pow (.c (.int 10)) (.c (.int 9)))) (.var 0) (.bin .Pow (.c (.int 10)) (.c (.int 9)))]])]
def f17 : FD := ⟨1, 1, b17⟩
def F17 : FnD := ⟨⟨("_law_is_letter", none), "_law_is_letter", "_law_is_letter", L2.defArgs (st 21), L2.defBody (st 21), L2.defScope (st 21), [], []⟩, ["_law_thing"], ["_law_thing"], f17, fun _ _ _ _ _ _ us hl => match us, hl with | [_], _ => rfl⟩
/-- _law_words():  -/
def b18 : List S := [.ret (.lst [.c (.str "plus"), .c (.str "times"), .c (.str "least"), .c (.str "most"), .c (.str "same"), .c (.str "less"), .c (.str "over"), .c (.str "rest"), .c (.str "below")])]
def f18 : FD := ⟨0, 0, b18⟩
def F18 : FnD := ⟨⟨("_law_words", none), "_law_words", "_law_words", L2.defArgs (st 22), L2.defBody (st 22), L2.defScope (st 22), [], []⟩, [], [], f18, fun _ _ _ _ _ _ us hl => match us, hl with | [], _ => rfl⟩
/-- _law_right(_law_word, _law_letters): 0 _law_word, 1 _law_letters, 2 _law_handed, 3 _law_told, 4 _law_due -/
def b19 : List S := [.asg 2 (.blt .list [.var 1]), .pr 2, .par2 3 4 (.call 11 [.var 0, .var 2]) (.call 15 [.var 0, .var 1]), .ife (.bop .Or [.t (.cmp .NotEq (.var 3) (.var 4)), .t (.blt .isinstance [.var 3, .gl 1]), .not (.t (.call 17 [.var 3])), .t (.cmp .NotEq (.var 2) (.var 1))]) [.ret (.c (.bl false))] [], .expr (.mth .reverse (.var 2) []), .ret (.bop .And [.cmp .Eq (.call 11 [.var 0, .var 2]) (.call 15 [.var 0, .op .rev [.var 1]]), .cmp .Eq (.call 11 [.var 0, .blt .list [.var 1]]) (.var 4)])]
def f19 : FD := ⟨2, 5, b19⟩
def F19 : FnD := ⟨⟨("_law_right", none), "_law_right", "_law_right", L2.defArgs (st 23), L2.defBody (st 23), L2.defScope (st 23), [], []⟩, ["_law_word", "_law_letters", "_law_handed", "_law_told", "_law_due"], ["_law_word", "_law_letters"], f19, fun _ _ _ _ _ _ us hl => match us, hl with | [_, _], _ => rfl⟩
/-- law(_law_script): 0 _law_script, 1 _law_at, 2 _law_high, 3 _law_told, 4 _law_bag_here, 5 _law_turn, 6 _law_letters, 7 _law_both, 8 _law_word, 9 _law_k -/
def b20 : List S := [.for (.nm 1) (.r1 (.blt .max [.c (.int 3), .blt .min [.c (.int 8), .blt .len [.var 0]]])) [.asg 4 (.call 12 [.var 0, .var 1]), .pr 4, .for (.nm 5) (.r1 (.c (.int 3))) [.asg 6 (.lc (.call 14 [.var 4]) (.nm 9) (.r1 (.bin .Add (.c (.int 1)) (.call 13 [.var 4, .c (.int 6)]))) .yes), .fz 6, .ife (.t (.cmp .Eq (.call 13 [.var 4, .c (.int 5)]) (.c (.int 0)))) [.asg 6 (.bin .Mult (.sl (.var 6) .no (.at (.c (.int 1)))) (.blt .len [.var 6])), .fz 6] [], .asg 7 (.bin .Add (.sl (.var 6) .no (.at (.c (.int 1)))) (.lst [.call 14 [.var 4]])), .pr 7, .ife (.t (.cmp .Eq (.call 13 [.var 4, .c (.int 4)]) (.c (.int 0)))) [.setIx (.var 7) (.c (.int 1)) (.c (.int 0))] [], .for (.nm 8) (.e (.call 18 [])) [.ife (.not (.t (.call 19 [.var 8, .ife (.t (.cmp .Gt (.mth .index (.call 18 []) [.var 8]) (.c (.int 4)))) (.var 7) (.var 6)]))) [.ret (.c (.bl false))] []]]], .asg 2 (.bin .Pow (.c (.int 10)) (.c (.int 9))), .asg 3 (.lst [.call 11 [.c (.str "plus"), .lst [.var 2, .neg (.c (.int 1)), .c (.int 1)]], .call 11 [.c (.str "plus"), .lst [.var 2, .c (.int 1)]], .call 11 [.c (.str "less"), .lst [.neg (.var 2), .c (.int 1)]], .call 11 [.c (.str "times"), .lst [.neg (.var 2), .c (.int 1)]]]), .fz 3, .asg 3 (.bin .Add (.var 3) (.lst [.call 11 [.c (.str "over"), .lst [.neg (.c (.int 7)), .c (.int 2)]], .call 11 [.c (.str "rest"), .lst [.neg (.c (.int 7)), .c (.int 2)]], .call 11 [.c (.str "rest"), .lst [.c (.int 7), .neg (.c (.int 2))]], .call 11 [.c (.str "same"), .lst [.c (.int 5)]]])), .fz 3, .ife (.bop .Or [.t (.cmp .NotEq (.var 3) (.lst [.var 2, .c .non, .c .non, .neg (.var 2), .neg (.c (.int 4)), .c (.int 1), .neg (.c (.int 1)), .c (.int 1)])), .t (.cmp .NotEq (.call 11 [.c (.str "over"), .lst [.neg (.var 2), .neg (.c (.int 1))]]) (.var 2))]) [.ret (.c (.bl false))] [], .asg 3 (.lst [.call 11 [.c (.str "plus"), .lst [.var 2, .c (.int 1), .neg (.c (.int 1))]], .call 11 [.c (.str "plus"), .lst [.neg (.var 2), .neg (.c (.int 5)), .c (.int 5)]], .call 11 [.c (.str "plus"), .lst [.var 2, .var 2, .neg (.var 2), .neg (.var 2), .c (.int 3)]]]), .fz 3, .asg 3 (.bin .Add (.var 3) (.lst [.call 11 [.c (.str "times"), .lst [.var 2, .c (.int 2), .c (.int 0)]], .call 11 [.c (.str "times"), .lst [.c (.int 2), .var 2, .c (.int 0), .c (.int 7)]], .call 11 [.c (.str "times"), .lst [.var 2, .var 2, .c (.int 0)]]])), .fz 3, .ret (.cmp .Eq (.var 3) (.lst [.var 2, .neg (.var 2), .c (.int 3), .c (.int 0), .c (.int 0), .c (.int 0)]))]
def f20 : FD := ⟨1, 10, b20⟩
def F20 : FnD := ⟨⟨("law", none), "law", "law", L2.defArgs (st 24), L2.defBody (st 24), L2.defScope (st 24), [], []⟩, ["_law_script", "_law_at", "_law_high", "_law_told", "_law_bag_here", "_law_turn", "_law_letters", "_law_both", "_law_word", "_law_k"], ["_law_script"], f20, fun _ _ _ _ _ _ us hl => match us, hl with | [_], _ => rfl⟩
def F : List FnD := [F0, F1, F2, F3, F4, F5, F6, F7, F8, F9, F10, F11, F12, F13, F14, F15, F16, F17, F18, F19, F20]
def gs : Gvs := [("int", .ty "int"), ("bool", .ty "bool"), ("LIMIT", .int 1000000000), ("MAKERS", .gl "MAKERS")]
def wds : Wds := [("MAKERS", [("plus", .gl "total"), ("times", .gl "product"), ("least", .gl "lowest"), ("most", .gl "highest"), ("same", .gl "all_alike"), ("less", .gl "difference"), ("over", .gl "quotient"), ("rest", .gl "remainder"), ("below", .gl "is_less")])]
-- law: def 20, statement 24 of 25; names: ['__name__', 'LIMIT', 'is_whole', 'is_letter', 'total', 'product', 'lowest', 'highest', 'all_alike', 'difference', 'quotient', 'remainder', 'is_less', 'MAKERS', 'made', '_law_bag', '_law_take', '_law_letter', '_law_folded', '_law_whole', '_law_is_letter', '_law_words', '_law_right']
def names : List PySem.Str := (["__name__", "LIMIT", "is_whole", "is_letter", "total", "product", "lowest", "highest", "all_alike", "difference", "quotient", "remainder", "is_less", "MAKERS", "made", "_law_bag", "_law_take", "_law_letter", "_law_folded", "_law_whole", "_law_is_letter", "_law_words", "_law_right"] : List PySem.Str)
abbrev Rw : PySem.W.OpenRow := PySem.W.OpenLaw.row PySem.Challenge.rw_oweback_k02_folds_made
abbrev hk : PySem.W.Hook := vyHook 4 F gs wds
abbrev VwP : PySem.Program := PySem.W.view Rw.prog [24]
def ob (s : PySem.W.SharedT) : He.AlX := He.obsX 4 (faOf F) (F.map (·.d)) (tabsOf wds) [] (exB gs wds) (HandSHeadRun.getT s)
theorem ob_eq (s : PySem.W.SharedT) : ob s = hk.obs s.abs := He.obsX_eq (HandSHeadRun.getT_eq s)
theorem okA : okAll F gs = true := by decide +kernel
theorem tyA : tyB gs = true := by decide +kernel
theorem runB (b : Bool) (w : World) : HandSHeadRun.RunEq Rw VwP hk ob 9000 names (w.withFollow "special-get-raises" b) := by
  intro os
  cases b <;> kernel_rfl
theorem run (w : World) : HandSHeadRun.RunEq Rw VwP hk ob 9000 names w := by
  have h := runB (w.params.followText "special-get-raises") w
  rwa [World.withFollow_self] at h
end K02
namespace K02
open VY PySem L2
abbrev KK : Nat := 5
abbrev Ck (k : Nat) := callK (pgOf F gs wds) k
abbrev Γk (k : Nat) : VY.Ctx := ⟨Ck k, gvOf gs, ixOf F, wdOf wds⟩
theorem ckE {k f : Nat} {d : FD} (e : (tds F)[f]? = some d) (ts : List T) (h : Hs) : Ck (k + 1) f ts h = runD (Γk k) d ts h := callK_eq (P := pgOf F gs wds) e ts h
section
variable (k : Nat) (h : Hs)
theorem g0 : gvOf gs 0 = some (.ty "int") := (rfl)
theorem g1 : gvOf gs 1 = some (.ty "bool") := (rfl)
theorem g2 : gvOf gs 2 = some (.int 1000000000) := (rfl)
theorem g3 : gvOf gs 3 = some (.gl "MAKERS") := (rfl)
/-- what is within the bounds -/
def lim : Option Int → Option Int
  | some r => if -1000000000 ≤ r ∧ r ≤ 1000000000 then some r else none
  | none => none
theorem c_whole (o : Option Int) : Ck (k + 1) 0 [optT o] h = .ok (.v (.bl o.isSome)) h ∧ Ck (k + 1) 16 [optT o] h = .ok (.v (.bl o.isSome)) h := by
  rw [ckE (f := 0) (d := f0) rfl, ckE (f := 16) (d := f16) rfl, runD_eq _ _ _ rfl, runD_eq _ _ _ rfl]
  cases o <;> constructor <;> simp [f0, f16, b0, b16, startT, g0, g1, bltR, tyN, isiS, optT]
def letB (o : Option Int) : Bool := match o with
  | none => true
  | some i => decide (-1000000000 ≤ i) && decide (i ≤ 1000000000)
theorem c_letter (o : Option Int) : Ck (k + 2) 1 [optT o] h = .ok (.v (.bl (letB o))) h ∧ Ck (k + 2) 17 [optT o] h = .ok (.v (.bl (letB o))) h := by
  obtain ⟨e1, e2⟩ := c_whole k h o
  rw [ckE (k := k + 1) (f := 1) (d := f1) rfl, ckE (k := k + 1) (f := 17) (d := f17) rfl, runD_eq _ _ _ rfl, runD_eq _ _ _ rfl]
  cases o with
  | none => constructor <;> simp [f1, f17, b1, b17, startT, g2, letB, optT]
  | some i =>
    simp only [optT] at e1 e2
    by_cases c : (-1000000000 : Int) ≤ i <;> constructor <;> simp [f1, f17, b1, b17, startT, g2, e1, e2, letB, c, optT]
theorem lim_letB (o : Option Int) : (if letB o = true then o else none) = lim o := by
  cases o with
  | none => rfl
  | some i => simp [letB, lim]
section
variable {t : T} {l : List T} {h : Hs}
theorem c_total {ns : List Int} (a : Ls h t (ns.map .int)) : Ck (k + 1) 2 [t] h = .ok (.v (.int ns.sum)) h := by
  rw [ckE (f := 2) (d := f2) rfl, runD_eq _ _ _ rfl]
  simp [f2, b2, startT, a.seen, bltR, intsOf_map]
theorem c_low {ns : List Int} {m : Int} (a : Ls h t (ns.map .int)) (e : minI ns = some m) : Ck (k + 1) 4 [t] h = .ok (.v (.int m)) h := by
  rw [ckE (f := 4) (d := f4) rfl, runD_eq _ _ _ rfl]
  simp [f4, b4, startT, a.seen, bltR, intsOf_map, e]
theorem c_high {ns : List Int} {m : Int} (a : Ls h t (ns.map .int)) (e : maxI ns = some m) : Ck (k + 1) 5 [t] h = .ok (.v (.int m)) h := by
  rw [ckE (f := 5) (d := f5) rfl, runD_eq _ _ _ rfl]
  simp [f5, b5, startT, a.seen, bltR, intsOf_map, e]
theorem c_alike {ns : List Int} (a : Ls h t (ns.map .int)) (hl : ns.length ≤ 4000) : Ck (k + 1) 6 [t] h = .ok (.v (.int (if decide ((nubI ns).length = 1) then 1 else 0))) h := by
  rw [ckE (f := 6) (d := f6) rfl, runD_eq _ _ _ rfl]
  have z : ((nubI ns).length : Int) = 1 ↔ (nubI ns).length = 1 := by omega
  simp [f6, b6, startT, a.seen, intsOf_map, hl, z]
theorem c_diff {a b : Int} (q : Ls h t [.int a, .int b]) : Ck (k + 1) 7 [t] h = .ok (.v (.int (a - b))) h := by
  rw [ckE (f := 7) (d := f7) rfl, runD_eq _ _ _ rfl]
  simp [f7, b7, startT, q.seen]
theorem c_less {a b : Int} (q : Ls h t [.int a, .int b]) : Ck (k + 1) 10 [t] h = .ok (.v (.int (if a < b then 1 else 0))) h := by
  rw [ckE (f := 10) (d := f10) rfl, runD_eq _ _ _ rfl]
  simp [f10, b10, startT, q.seen]
def divO (a b : Int) : Option Int := if b = 0 then none else fdivT a b
def remO (a b : Int) : Option Int := if b = 0 then none else modT a b
theorem div_some {a b : Int} (hb : b ≠ 0) (l : -1000000000 ≤ b) (u : b ≤ 1000000000) : ∃ r, fdivT a b = some r := by
  unfold fdivT
  by_cases c : 0 < b ∧ b.natAbs.log2 < 9000
  · exact ⟨_, if_pos c⟩
  · rw [if_neg c, if_pos (by omega)]; exact ⟨_, rfl⟩
theorem mod_some {a b : Int} (hb : b ≠ 0) : ∃ r, modT a b = some r := by
  unfold modT
  by_cases c : 0 < b
  · exact ⟨_, if_pos c⟩
  · rw [if_neg c, if_pos hb]; exact ⟨_, rfl⟩
theorem c_quot {a b : Int} (q : Ls h t [.int a, .int b]) (l : -1000000000 ≤ b) (u : b ≤ 1000000000) : Ck (k + 1) 8 [t] h = .ok (.v (optT (divO a b))) h := by
  rw [ckE (f := 8) (d := f8) rfl, runD_eq _ _ _ rfl]
  have i0 : ixL (wdOf wds) [some (.v t)] (.v t) (.v (.int 0)) h = .ok (.v (.int a)) h := by
    rcases q with rfl | ⟨n, rfl, e⟩
    · rfl
    · simp [e]; rfl
  have i1 : ixL (wdOf wds) [some (.v t)] (.v t) (.v (.int 1)) h = .ok (.v (.int b)) h := by
    rcases q with rfl | ⟨n, rfl, e⟩
    · rfl
    · simp [e]; rfl
  by_cases hb : b = 0
  · subst hb
    simp [f8, b8, startT, i0, i1, SO.catch_ex, divO, optT]
  · obtain ⟨r, er⟩ := div_some (a := a) hb l u
    simp [f8, b8, startT, i0, i1, divO, optT, hb, er]
theorem c_rem {a b : Int} (q : Ls h t [.int a, .int b]) : Ck (k + 1) 9 [t] h = .ok (.v (optT (remO a b))) h := by
  rw [ckE (f := 9) (d := f9) rfl, runD_eq _ _ _ rfl]
  by_cases hb : b = 0
  · simp [f9, b9, startT, q.seen, hb, remO, optT]
  · obtain ⟨r, er⟩ := mod_some (a := a) hb
    have e : opR .Mod (.int a) (.int b) = some (.v (.int r)) := by
      show (modT a b).map _ = _
      rw [er]; rfl
    simp [f9, b9, startT, q.seen, hb, remO, optT, er, e]
def prodI (ns : List Int) : Int := ns.foldl (fun a b => a * b) 1
theorem c_prod {ns : List Int} (a : Ls h t (ns.map .int)) (hb : ∀ n ∈ ns, -1000000000 ≤ n ∧ n ≤ 1000000000) : Ck (k + 1) 3 [t] h = .ok (.v (.int (prodI ns))) h := by
  rw [ckE (f := 3) (d := f3) rfl, runD_eq _ _ _ rfl]
  obtain ⟨g, e1, e2⟩ := a.walk
  obtain ⟨σ', e3, x, rfl⟩ := forL_stay (body := forB (Γk k) (.nm 2) [.aug 1 .Mult (.var 2)]) e2 (fun i σ => ∃ x, σ = [some (.v t), some (.v (.int (prodI (ns.take i)))), x]) (ns.map .int) 0 (fun i y ey σ q => by
    obtain ⟨x, rfl⟩ := q
    rw [List.getElem?_map] at ey
    obtain ⟨n, en, rfl⟩ := Option.map_eq_some_iff.mp ey
    have hn := hb n (List.mem_of_getElem? en)
    refine ⟨[some (.v t), some (.v (.int (prodI (ns.take i) * n))), some (.v (.int n))], ?_, some (.v (.int n)), ?_⟩
    · rw [forB_nm]
      have m : augT .Mult (.int (prodI (ns.take i))) (.int n) = some (.int (prodI (ns.take i) * n)) := if_pos (mulOk_r (by omega) (by omega))
      simp [evS, augS, m]
    · simp only [Nat.zero_add]
      congr 4
      unfold prodI
      rw [List.take_succ, en]
      simp) [some (.v t), some (.v (.int 1)), none] ⟨none, rfl⟩
  have e4 : prodI (ns.take (0 + (ns.map T.int).length)) = prodI ns := by simp
  rw [e4] at e3
  simp [f3, b3, startT, e1, e3]
/-- made, by its maker -/
theorem c_made {w g : Str} {f : Nat} {r : Option Int} {ns : List Int} (a : Ls h t (ns.map .int)) (hw : wdOf wds "MAKERS" w = some (.gl g)) (hf : ixOf F g = some f) (hc : Ck (k + 2) f [t] h = .ok (.v (optT r)) h) :
    Ck (k + 3) 11 [.str w, t] h = .ok (.v (optT (lim r))) h := by
  rw [ckE (k := k + 2) (f := 11) (d := f11) rfl, runD_eq _ _ _ rfl]
  have i0 : inT .non (.lst (ns.map .int)) = some false := by
    rw [← ints_opt, in_opt]; simp
  have cv : ∀ (s0 s1 s3 : Option Sl), cvL (Γk (k + 2)) (some (some (.v (.gl g)))) (evEs (Γk (k + 2)) [.var 1] [s0, some (.v t), s1, s3]) h = .ok (.v (optT r)) h := fun s0 s1 s3 => by
    rw [cvL_gl (Γk (k + 2)) h (f := f) hf]
    simp [hc]
  have cl := (c_letter k h r).1
  have e := lim_letB r
  cases b : letB r with
  | true =>
    rw [b] at e cl
    have e' : r = lim r := by simpa using e
    rw [← e']
    simp [f11, b11, startT, a.seen, i0, g3, hw, cv, cl]
  | false =>
    rw [b] at e cl
    have e' : none = lim r := by simpa using e
    rw [← e']
    show _ = Out.ok (R.v .non) h
    simp [f11, b11, startT, a.seen, i0, g3, hw, cv, cl]
theorem c_made0 {w : Str} {L : List (Option Int)} (a : Ls h t (L.map optT)) (hn : (L.any fun o => o.isNone) = true) : Ck (k + 1) 11 [.str w, t] h = .ok (.v .non) h := by
  rw [ckE (f := 11) (d := f11) rfl, runD_eq _ _ _ rfl]
  simp [f11, b11, startT, a.seen, in_opt, hn]
end
def condF : C := .bop .Or [.t (.cmp .In (.c .non) (.var 1)), .bop .And [.t (.cmp .In (.var 0) (.tup [.c (.str "over"), .c (.str "rest")])), .t (.cmp .Eq (.ix (.var 1) (.c (.int 1))) (.c (.int 0)))]]
def headF : List S := [.asgT (.tp [.nm 4, .nm 5]) (.tup [.ix (.var 1) (.c (.int 0)), .ix (.var 1) (.neg (.c (.int 1)))]), .asg 2 (.dsp [.c (.str "plus"), .blt .sum [.var 1], .c (.str "least"), .blt .min [.var 1], .c (.str "most"), .blt .max [.var 1], .c (.str "less"), .bin .Sub (.var 4) (.var 5)])]
def sameF : List S := [.setIx (.var 2) (.c (.str "same")) (.blt .int [.blt .all [.lc (.cmp .Eq (.var 6) (.var 4)) (.nm 6) (.e (.var 1)) .yes]]), .setIx (.var 2) (.c (.str "below")) (.blt .int [.cmp .Lt (.var 4) (.var 5)])]
def getF : List S := [.asg 3 (.mth .get (.var 2) [.var 0, .c (.int 1)])]
def timesF : List S := [.ife (.t (.cmp .Eq (.var 0) (.c (.str "times")))) [.for (.nm 6) (.e (.var 1)) [.asg 3 (.bin .Mult (.var 3) (.var 6))]] []]
def pairF : List S := [.ife (.t (.cmp .In (.var 0) (.tup [.c (.str "over"), .c (.str "rest")]))) [.asg 3 (.ife (.t (.cmp .Eq (.var 0) (.c (.str "over")))) (.bin .FloorDiv (.var 4) (.var 5)) (.bin .Mod (.var 4) (.var 5)))] []]
def endF : List S := [.ret (.ife (.t (.cmp .LtE (.blt .abs [.var 3]) (.bin .Pow (.c (.int 10)) (.c (.int 9))))) (.var 3) (.c .non))]
theorem b15_eq : b15 = .ife condF [.ret (.c .non)] [] :: (headF ++ (sameF ++ (getF ++ (timesF ++ (pairF ++ endF))))) := rfl
theorem evSs_app (Γ : VY.Ctx) : ∀ (a b : List S) (σ : Slots) (h : Hs), evSs Γ (a ++ b) σ h = (evSs Γ a σ h).seq (evSs Γ b)
  | [], b, σ, h => by simp
  | s :: a, b, σ, h => by
    rw [List.cons_append, evSs_cons, evSs_cons]
    cases evS Γ s σ h with
    | ok f σ1 h1 => cases f <;> simp [evSs_app Γ a b]
    | ex x σ1 h1 => rfl
    | bad => rfl
/-- the words, by their numbers -/
def wd : Nat → Str := fun i => (["plus", "times", "least", "most", "same", "less", "over", "rest", "below"] : List Str).getD i ""
abbrev Γ (k : Nat) := Γk k
section
variable {t : T} {h : Hs} {a b : Int} {ns : List Int}
theorem cond_none {L : List (Option Int)} (w : T) (s2 s3 s4 s5 s6 : Option Sl) (q : Ls h t (L.map optT)) (hn : (L.any fun o => o.isNone) = true) : evC (Γ k) condF [some (.v w), some (.v t), s2, s3, s4, s5, s6] h = .ok true h := by
  simp [condF, q.seen, in_opt, hn]
theorem cond_pair (i : Nat) (hi : i = 6 ∨ i = 7) (s2 s3 s4 s5 s6 : Option Sl) (q : Ls h t [.int a, .int b]) : evC (Γ k) condF [some (.v (.str (wd i))), some (.v t), s2, s3, s4, s5, s6] h = .ok (decide (b = 0)) h := by
  have i0 : inT .non (.lst [.int a, .int b]) = some false := in_opt [some a, some b]
  have i1 : ixL (wdOf wds) [some (.v (.str (wd i))), some (.v t), s2, s3, s4, s5, s6] (.v t) (.v (.int 1)) h = .ok (.v (.int b)) h := by
    rcases q with rfl | ⟨n, rfl, e⟩
    · rfl
    · simp [e]; rfl
  have w1 : inT (.str (wd i)) (.tup [.str "over", .str "rest"]) = some true := by rcases hi with rfl | rfl <;> decide +kernel
  have sl : (2 : Nat) ≤ SL := by decide
  simp [condF, q.seen, i0, i1, w1, sl]
theorem cond_plain (i : Nat) (hi : i < 9) (h6 : i ≠ 6) (h7 : i ≠ 7) (s2 s3 s4 s5 s6 : Option Sl) (q : Ls h t (ns.map .int)) : evC (Γ k) condF [some (.v (.str (wd i))), some (.v t), s2, s3, s4, s5, s6] h = .ok false h := by
  have i0 : inT .non (.lst (ns.map .int)) = some false := by rw [← ints_opt, in_opt]; simp
  have w1 : inT (.str (wd i)) (.tup [.str "over", .str "rest"]) = some false := by
    have : i = 0 ∨ i = 1 ∨ i = 2 ∨ i = 3 ∨ i = 4 ∨ i = 5 ∨ i = 8 := by omega
    rcases this with rfl | rfl | rfl | rfl | rfl | rfl | rfl <;> decide +kernel
  have sl : (2 : Nat) ≤ SL := by decide
  simp [condF, q.seen, i0, w1, sl]
def allB (a : Int) (ns : List Int) : Bool := ns.all fun x => decide (x = a)
/-- the first, the last one -/
structure Ends (ns : List Int) (a b : Int) : Prop where
  fst : atI (ns.map T.int) 0 = some (.int a)
  lst : atI (ns.map T.int) (-1) = some (.int b)
def dctF (ns : List Int) (a b m M : Int) : List (Key × T) := [(.inr "plus", .int ns.sum), (.inr "least", .int m), (.inr "most", .int M), (.inr "less", .int (a - b)), (.inr "same", .int (if allB a ns then 1 else 0)), (.inr "below", .int (if a < b then 1 else 0))]
theorem head_run {m M : Int} (w : T) (q : Ls h t (ns.map .int)) (e : Ends ns a b) (e1 : minI ns = some m) (e2 : maxI ns = some M) : evSs (Γ k) headF [some (.v w), some (.v t), none, none, none, none, none] h =
    .ok .nx [some (.v w), some (.v t), some (.v (.ref h.length)), none, some (.v (.int a)), some (.v (.int b)), none] (h ++ [.dct ((dctF ns a b m M).take 4)]) := by
  have i0 : ∀ σ, ixL (wdOf wds) σ (.v t) (.v (.int 0)) h = .ok (.v (.int a)) h := fun σ => by
    rcases q with rfl | ⟨n, rfl, ee⟩
    · simp [e.fst]
    · simp [ee, e.fst]
  have i1 : ∀ σ, ixL (wdOf wds) σ (.v t) (.v (.int (-1))) h = .ok (.v (.int b)) h := fun σ => by
    rcases q with rfl | ⟨n, rfl, ee⟩
    · simp [e.lst]
    · simp [ee, e.lst]
  have b1 : bltR .sum [.lst (ns.map .int)] = some (.v (.int ns.sum)) := by simp [bltR, intsOf_map]
  have b2 : bltR .min [.lst (ns.map .int)] = some (.v (.int m)) := by simp [bltR, intsOf_map, e1]
  have b3 : bltR .max [.lst (ns.map .int)] = some (.v (.int M)) := by simp [bltR, intsOf_map, e2]
  have ds : dspL [.str "plus", .int ns.sum, .str "least", .int m, .str "most", .int M, .str "less", .int (a - b)] h = .ok (.v (.ref h.length)) (h ++ [.dct ((dctF ns a b m M).take 4)]) := by
    rw [dspL_of h (kvs := (dctF ns a b m M).take 4) rfl ⟨show (4 : Nat) ≤ 15 by decide, show (0 : Nat) < 4 by decide⟩]
    rfl
  have sl : (2 : Nat) ≤ SL := by decide
  simp [headF, i0, i1, sl, q.seen, b1, b2, b3, ds]
theorem same_run {m M : Int} (w : T) (q : Ls h t (ns.map .int)) (hl : ns.length ≤ 4000) : evSs (Γ k) sameF [some (.v w), some (.v t), some (.v (.ref h.length)), none, some (.v (.int a)), some (.v (.int b)), none] (h ++ [.dct ((dctF ns a b m M).take 4)]) =
    .ok .nx [some (.v w), some (.v t), some (.v (.ref h.length)), none, some (.v (.int a)), some (.v (.int b)), none] (h ++ [.dct (dctF ns a b m M)]) := by
  have q' := q.grow (Gr.push (h := h) (o := .dct ((dctF ns a b m M).take 4)))
  obtain ⟨g, w1, w2⟩ := q'.walk
  have lc := lcL_map (f := lcT (Γ k) (.cmp .Eq (.var 6) (.var 4)) (.nm 6) .yes [some (.v w), some (.v t), some (.v (.ref h.length)), none, some (.v (.int a)), some (.v (.int b)), none]) (fun x => match x with | .int i => .bl (decide (i = a)) | _ => .non) w2 (ns.map .int) [] (fun x hx => by
    obtain ⟨i, _, rfl⟩ := List.mem_map.mp hx
    simp [lcT, noex, wipeT, Tg.ixs]) (by simp; have : SL = 16777216 := rfl; omega)
  have bl : bltR .all [.lst ((ns.map T.int).map (fun x => match x with | .int i => T.bl (decide (i = a)) | _ => .non))] = some (.v (.bl (allB a ns))) := by
    have e : (ns.map T.int).map (fun x => match x with | .int i => T.bl (decide (i = a)) | _ => .non) = (ns.map fun i => decide (i = a)).map T.bl := by simp
    rw [e]
    show (blsOf _).map _ = _
    rw [blsOf_map]
    simp [allB, List.all_map]
  rw [List.nil_append] at lc
  generalize (ns.map T.int).map (fun x => match x with | .int i => T.bl (decide (i = a)) | _ => .non) = LL at lc bl
  have p1 : ((dctF ns a b m M).take 4).length < SL := show (4 : Nat) < SL by decide
  have p1' : min 4 (dctF ns a b m M).length < SL := show (4 : Nat) < SL by decide
  have p2' : min 5 (dctF ns a b m M).length < SL := show (5 : Nat) < SL by decide
  have p2 : ((dctF ns a b m M).take 5).length < SL := show (5 : Nat) < SL by decide
  have u1 : putT ((dctF ns a b m M).take 4) (.inr "same") (.int (if allB a ns then 1 else 0)) = (dctF ns a b m M).take 5 := rfl
  have u2 : putT ((dctF ns a b m M).take 5) (.inr "below") (.int (if a < b then 1 else 0)) = dctF ns a b m M := rfl
  simp [sameF, w1, lc, bl, p1', p2', u1, u2]
end

section
variable {t : T} {h : Hs} {a b : Int} {ns : List Int}
theorem get_run {D : List (Key × T)} (w : Str) (v : Int) (hv : (match lookT D (.inr w) with | some t => t | none => .int 1) = .int v) (s3 s4 s5 s6 : Option Sl) : evSs (Γ k) getF [some (.v (.str w)), some (.v t), some (.v (.ref h.length)), s3, s4, s5, s6] (h ++ [.dct D]) =
    .ok .nx [some (.v (.str w)), some (.v t), some (.v (.ref h.length)), some (.v (.int v)), s4, s5, s6] (h ++ [.dct D]) := by
  cases e : lookT D (.inr w) with
  | some z =>
    rw [e] at hv
    have hv : z = .int v := hv
    have g := getL_some (h ++ [.dct D]) (.v (.int 1)) e
    simp [getF, g, hv]
  | none =>
    rw [e] at hv
    have hv : T.int 1 = .int v := hv
    have g := getL_none (h ++ [.dct D]) (.v (.int 1)) e
    cases hv
    simp [getF, g]
theorem times_no (i : Nat) (hi : i < 9) (h1 : i ≠ 1) (s1 s2 s3 s4 s5 s6 : Option Sl) : evSs (Γ k) timesF [some (.v (.str (wd i))), s1, s2, s3, s4, s5, s6] h = .ok .nx [some (.v (.str (wd i))), s1, s2, s3, s4, s5, s6] h := by
  have w1 : eqT (.str (wd i)) (.str "times") = some false := by
    have : i = 0 ∨ i = 2 ∨ i = 3 ∨ i = 4 ∨ i = 5 ∨ i = 6 ∨ i = 7 ∨ i = 8 := by omega
    rcases this with rfl | rfl | rfl | rfl | rfl | rfl | rfl | rfl <;> decide +kernel
  simp [timesF, w1]
theorem times_yes (q : Ls h t (ns.map .int)) (hb : ∀ n ∈ ns, -1000000000 ≤ n ∧ n ≤ 1000000000) (s2 s4 s5 s6 : Option Sl) : ∃ x, evSs (Γ k) timesF [some (.v (.str (wd 1))), some (.v t), s2, some (.v (.int 1)), s4, s5, s6] h = .ok .nx [some (.v (.str (wd 1))), some (.v t), s2, some (.v (.int (prodI ns))), s4, s5, x] h := by
  have w1 : eqT (.str (wd 1)) (.str "times") = some true := by decide +kernel
  obtain ⟨g, e1, e2⟩ := q.walk
  obtain ⟨σ', e3, x, rfl⟩ := forL_stay (body := forB (Γ k) (.nm 6) [.asg 3 (.bin .Mult (.var 3) (.var 6))]) e2 (fun i σ => ∃ x, σ = [some (.v (.str (wd 1))), some (.v t), s2, some (.v (.int (prodI (ns.take i)))), s4, s5, x]) (ns.map .int) 0 (fun i y ey σ q => by
    obtain ⟨x, rfl⟩ := q
    rw [List.getElem?_map] at ey
    obtain ⟨n, en, rfl⟩ := Option.map_eq_some_iff.mp ey
    have hn := hb n (List.mem_of_getElem? en)
    refine ⟨[some (.v (.str (wd 1))), some (.v t), s2, some (.v (.int (prodI (ns.take i) * n))), s4, s5, some (.v (.int n))], ?_, some (.v (.int n)), ?_⟩
    · rw [forB_nm]
      have m : opR .Mult (.int (prodI (ns.take i))) (.int n) = some (.v (.int (prodI (ns.take i) * n))) := opR_mul (mulOk_r (by omega) (by omega))
      simp [m]
    · simp only [Nat.zero_add]
      congr 7
      unfold prodI
      rw [List.take_succ, en]
      simp) [some (.v (.str (wd 1))), some (.v t), s2, some (.v (.int 1)), s4, s5, s6] ⟨s6, rfl⟩
  have e4 : prodI (ns.take (0 + (ns.map T.int).length)) = prodI ns := by simp
  rw [e4] at e3
  exact ⟨x, by simp [timesF, w1, e1, e3]⟩
theorem pair_no (i : Nat) (hi : i < 9) (h6 : i ≠ 6) (h7 : i ≠ 7) (s1 s2 s3 s4 s5 s6 : Option Sl) : evSs (Γ k) pairF [some (.v (.str (wd i))), s1, s2, s3, s4, s5, s6] h = .ok .nx [some (.v (.str (wd i))), s1, s2, s3, s4, s5, s6] h := by
  have w1 : inT (.str (wd i)) (.tup [.str "over", .str "rest"]) = some false := by
    have : i = 0 ∨ i = 1 ∨ i = 2 ∨ i = 3 ∨ i = 4 ∨ i = 5 ∨ i = 8 := by omega
    rcases this with rfl | rfl | rfl | rfl | rfl | rfl | rfl <;> decide +kernel
  have sl : (2 : Nat) ≤ SL := by decide
  simp [pairF, w1, sl]
theorem pair_6 {r : Int} (e : fdivT a b = some r) (s1 s2 s3 s6 : Option Sl) : evSs (Γ k) pairF [some (.v (.str (wd 6))), s1, s2, s3, some (.v (.int a)), some (.v (.int b)), s6] h = .ok .nx [some (.v (.str (wd 6))), s1, s2, some (.v (.int r)), some (.v (.int a)), some (.v (.int b)), s6] h := by
  have w1 : inT (.str (wd 6)) (.tup [.str "over", .str "rest"]) = some true := by decide +kernel
  have w2 : eqT (.str (wd 6)) (.str "over") = some true := by decide +kernel
  have o : opR .FloorDiv (.int a) (.int b) = some (.v (.int r)) := by
    show (fdivT a b).map _ = _
    rw [e]; rfl
  have sl : (2 : Nat) ≤ SL := by decide
  simp [pairF, w1, w2, o, sl]
theorem pair_7 {r : Int} (e : modT a b = some r) (s1 s2 s3 s6 : Option Sl) : evSs (Γ k) pairF [some (.v (.str (wd 7))), s1, s2, s3, some (.v (.int a)), some (.v (.int b)), s6] h = .ok .nx [some (.v (.str (wd 7))), s1, s2, some (.v (.int r)), some (.v (.int a)), some (.v (.int b)), s6] h := by
  have w1 : inT (.str (wd 7)) (.tup [.str "over", .str "rest"]) = some true := by decide +kernel
  have w2 : eqT (.str (wd 7)) (.str "over") = some false := by decide +kernel
  have o : opR .Mod (.int a) (.int b) = some (.v (.int r)) := by
    show (modT a b).map _ = _
    rw [e]; rfl
  have sl : (2 : Nat) ≤ SL := by decide
  simp [pairF, w1, w2, o, sl]
theorem end_run (v : Int) (s0 s1 s2 s4 s5 s6 : Option Sl) : (evSs (Γ k) endF [s0, s1, s2, some (.v (.int v)), s4, s5, s6] h).out = .ok (.v (optT (lim (some v)))) h := by
  have z : absI v ≤ 1000000000 ↔ (-1000000000 ≤ v ∧ v ≤ 1000000000) := by
    unfold absI
    split <;> omega
  by_cases c : -1000000000 ≤ v ∧ v ≤ 1000000000
  · simp [endF, z, c, lim, optT]
  · simp [endF, z, c, lim, optT]
/-- what a word makes of whole numbers -/
def raw (i : Nat) (ns : List Int) (a b m M : Int) : Option Int := match i with
  | 0 => some ns.sum
  | 1 => some (prodI ns)
  | 2 => some m
  | 3 => some M
  | 4 => some (if allB a ns then 1 else 0)
  | 5 => some (a - b)
  | 6 => divO a b
  | 7 => remO a b
  | _ => some (if a < b then 1 else 0)
/-- numbers that a word takes -/
structure Fit (i : Nat) (ns : List Int) (a b : Int) : Prop where
  lt : i < 9
  ends : Ends ns a b
  bd : ∀ n ∈ ns, -1000000000 ≤ n ∧ n ≤ 1000000000
  len : ns.length ≤ 4000
  ne : ns ≠ []
  hd : ns.head? = some a
  two : 4 < i → ns = [a, b]
def vF (i : Nat) (ns : List Int) (a b m M : Int) : Int := match i with
  | 0 => ns.sum
  | 2 => m
  | 3 => M
  | 4 => if allB a ns then 1 else 0
  | 5 => a - b
  | 8 => if a < b then 1 else 0
  | _ => 1
theorem look_F (i : Nat) (hi : i < 9) (m M : Int) : (match lookT (dctF ns a b m M) (.inr (wd i)) with | some t => t | none => .int 1) = .int (vF i ns a b m M) := by
  have : i = 0 ∨ i = 1 ∨ i = 2 ∨ i = 3 ∨ i = 4 ∨ i = 5 ∨ i = 6 ∨ i = 7 ∨ i = 8 := by omega
  rcases this with rfl | rfl | rfl | rfl | rfl | rfl | rfl | rfl | rfl <;> rfl
theorem c_folded {i : Nat} {m M : Int} (q : Ls h t (ns.map .int)) (f : Fit i ns a b) (e1 : minI ns = some m) (e2 : maxI ns = some M) : ∃ h', Ck (k + 1) 15 [.str (wd i), t] h = .ok (.v (optT (lim (raw i ns a b m M)))) h' ∧ Gr h h' := by
  rw [ckE (f := 15) (d := f15) rfl, runD_eq _ _ _ rfl]
  show ∃ h', (evSs (Γ k) b15 [some (.v (.str (wd i))), some (.v t), none, none, none, none, none] h).out = _ ∧ _
  rw [b15_eq, evSs_cons, evS_ife]
  have q' := fun D => q.grow (Gr.push (h := h) (o := .dct D))
  have hr := head_run k (w := .str (wd i)) q f.ends e1 e2
  have sr := same_run k (a := a) (b := b) (m := m) (M := M) (.str (wd i)) q f.len
  have gr := get_run k (t := t) (h := h) (wd i) (vF i ns a b m M) (look_F i f.lt m M) none (some (.v (.int a))) (some (.v (.int b))) none
  have whole : ∀ {v x}, evSs (Γ k) (timesF ++ (pairF ++ endF)) [some (.v (.str (wd i))), some (.v t), some (.v (.ref h.length)), some (.v (.int (vF i ns a b m M))), some (.v (.int a)), some (.v (.int b)), none] (h ++ [.dct (dctF ns a b m M)]) =
      (evSs (Γ k) endF [some (.v (.str (wd i))), some (.v t), some (.v (.ref h.length)), some (.v (.int v)), some (.v (.int a)), some (.v (.int b)), x] (h ++ [.dct (dctF ns a b m M)])) → raw i ns a b m M = some v →
      evC (Γ k) condF [some (.v (.str (wd i))), some (.v t), none, none, none, none, none] h = .ok false h →
      ∃ h', ((sb [some (.v (.str (wd i))), some (.v t), none, none, none, none, none] (evC (Γ k) condF [some (.v (.str (wd i))), some (.v t), none, none, none, none, none] h) fun k_1 h1 => if k_1 = true then evSs (Γ k) [.ret (.c .non)] [some (.v (.str (wd i))), some (.v t), none, none, none, none, none] h1 else evSs (Γ k) [] [some (.v (.str (wd i))), some (.v t), none, none, none, none, none] h1).seq
        (evSs (Γ k) (headF ++ (sameF ++ (getF ++ (timesF ++ (pairF ++ endF))))))).out = .ok (.v (optT (lim (raw i ns a b m M)))) h' ∧ Gr h h' := by
    intro v x e3 er ec
    refine ⟨h ++ [.dct (dctF ns a b m M)], ?_, Gr.push⟩
    rw [ec, sb_ok, if_neg (by decide), evSs_nil, SO.seq_nx, evSs_app, hr, SO.seq_nx, evSs_app, sr, SO.seq_nx, evSs_app, gr, SO.seq_nx, e3, end_run, er]
  have plain : i ≠ 1 → i ≠ 6 → i ≠ 7 → raw i ns a b m M = some (vF i ns a b m M) := fun h1 h6 h7 => by
    have hi := f.lt
    have : i = 0 ∨ i = 2 ∨ i = 3 ∨ i = 4 ∨ i = 5 ∨ i = 8 := by omega
    rcases this with rfl | rfl | rfl | rfl | rfl | rfl <;> rfl
  by_cases h1 : i = 1
  · subst h1
    obtain ⟨x, et⟩ := times_yes k (q' (dctF ns a b m M)) f.bd (some (.v (.ref h.length))) (some (.v (.int a))) (some (.v (.int b))) none
    exact whole (v := prodI ns) (x := x) (by
      rw [evSs_app]
      show SO.seq (evSs (Γ k) timesF [some (.v (.str (wd 1))), some (.v t), some (.v (.ref h.length)), some (.v (.int 1)), some (.v (.int a)), some (.v (.int b)), none] _) _ = _
      rw [et, SO.seq_nx, evSs_app, pair_no k 1 (by decide) (by decide) (by decide), SO.seq_nx]) rfl (cond_plain k 1 (by decide) (by decide) (by decide) none none none none none q)
  · by_cases h67 : i = 6 ∨ i = 7
    · have e : ns = [a, b] := f.two (by omega)
      subst e
      have ec := cond_pair k (a := a) (b := b) i h67 none none none none none q
      by_cases hb : b = 0
      · have er : raw i [a, b] a b m M = none := by rcases h67 with rfl | rfl <;> simp [raw, divO, remO, hb]
        rw [er]
        refine ⟨h, ?_, .refl⟩
        rw [ec, decide_eq_true hb, sb_ok, if_pos rfl]
        simp [lim, optT]
      · rw [decide_eq_false hb] at ec
        have bb := f.bd b (by simp)
        rcases h67 with rfl | rfl
        · obtain ⟨r, er⟩ := div_some (a := a) hb bb.1 bb.2
          exact whole (v := r) (x := none) (by
            rw [evSs_app, times_no k 6 (by decide) (by decide), SO.seq_nx, evSs_app, pair_6 k er, SO.seq_nx]) (by simp [raw, divO, hb, er]) ec
        · obtain ⟨r, er⟩ := mod_some (a := a) hb
          exact whole (v := r) (x := none) (by
            rw [evSs_app, times_no k 7 (by decide) (by decide), SO.seq_nx, evSs_app, pair_7 k er, SO.seq_nx]) (by simp [raw, remO, hb, er]) ec
    · have h6 : i ≠ 6 := fun z => h67 (.inl z)
      have h7 : i ≠ 7 := fun z => h67 (.inr z)
      exact whole (v := vF i ns a b m M) (x := none) (by
        rw [evSs_app, times_no k i f.lt h1, SO.seq_nx, evSs_app, pair_no k i f.lt h6 h7, SO.seq_nx]) (plain h1 h6 h7) (cond_plain k i f.lt h6 h7 none none none none none q)
end

def gW : Nat → Str := fun i => (["total", "product", "lowest", "highest", "all_alike", "difference", "quotient", "remainder", "is_less"] : List Str).getD i ""
section
variable {t t' : T} {h : Hs} {a b : Int} {ns : List Int}
theorem c_made_raw {i : Nat} {m M : Int} (q : Ls h t (ns.map .int)) (f : Fit i ns a b) (e1 : minI ns = some m) (e2 : maxI ns = some M) : Ck (k + 3) 11 [.str (wd i), t] h = .ok (.v (optT (lim (raw i ns a b m M)))) h := by
  have hi := f.lt
  have two : 4 < i → Ls h t [.int a, .int b] := fun z => by
    have := f.two z
    rw [this] at q
    exact q
  have bb : 4 < i → -1000000000 ≤ b ∧ b ≤ 1000000000 := fun z => f.bd b (by rw [f.two z]; simp)
  have : i = 0 ∨ i = 1 ∨ i = 2 ∨ i = 3 ∨ i = 4 ∨ i = 5 ∨ i = 6 ∨ i = 7 ∨ i = 8 := by omega
  rcases this with rfl | rfl | rfl | rfl | rfl | rfl | rfl | rfl | rfl
  · exact c_made k (g := gW 0) (f := 2) q rfl rfl (c_total (k + 1) q)
  · exact c_made k (g := gW 1) (f := 3) q rfl rfl (c_prod (k + 1) q f.bd)
  · exact c_made k (g := gW 2) (f := 4) q rfl rfl (c_low (k + 1) q e1)
  · exact c_made k (g := gW 3) (f := 5) q rfl rfl (c_high (k + 1) q e2)
  · refine c_made k (g := gW 4) (f := 6) q rfl rfl ?_
    rw [c_alike (k + 1) q f.len]
    cases ns with
    | nil => exact (f.ne rfl).elim
    | cons x r =>
      have e : x = a := by have := f.hd; simpa using this
      subst e
      rw [nubI_one]
      rfl
  · exact c_made k (g := gW 5) (f := 7) q rfl rfl (c_diff (k + 1) (two (by decide)))
  · exact c_made k (g := gW 6) (f := 8) q rfl rfl (c_quot (k + 1) (two (by decide)) (bb (by decide)).1 (bb (by decide)).2)
  · exact c_made k (g := gW 7) (f := 9) q rfl rfl (c_rem (k + 1) (two (by decide)))
  · exact c_made k (g := gW 8) (f := 10) q rfl rfl (c_less (k + 1) (two (by decide)))
/-- letters that a word takes -/
structure FitL (i : Nat) (L : List (Option Int)) : Prop where
  lt : i < 9
  bd : ∀ n, some n ∈ L → -1000000000 ≤ n ∧ n ≤ 1000000000
  len : L.length ≤ 4000
  ne : L ≠ []
  two : 4 < i → L.length = 2
theorem at_last {ns : List Int} {b : Int} (e : ns.getLast? = some b) (hl : ns.length ≤ 4000) : atI (ns.map T.int) (-1) = some (.int b) := by
  have hne : ns ≠ [] := fun z => by rw [z] at e; cases e
  have pos : 0 < ns.length := List.length_pos_iff.mpr hne
  rw [List.getLast?_eq_getElem?] at e
  unfold atI ixN
  simp only [List.length_map]
  rw [if_neg (by omega), if_pos (by omega)]
  have z : ((ns.length : Int) + -1).toNat = ns.length - 1 := by omega
  show (ns.map T.int)[((ns.length : Int) + -1).toNat]? = _
  rw [z, List.getElem?_map, e]
  rfl
/-- the same, whatever the letters, wherever they stand -/
theorem both {i : Nat} {L : List (Option Int)} (f : FitL i L) : ∃ r : Option Int, letB r = true ∧ (∀ {h : Hs} {t : T}, Ls h t (L.map optT) → Ck (k + 3) 11 [.str (wd i), t] h = .ok (.v (optT r)) h) ∧ ∀ {h : Hs} {t : T}, Ls h t (L.map optT) → ∃ h', Ck (k + 3) 15 [.str (wd i), t] h = .ok (.v (optT r)) h' ∧ Gr h h' := by
  cases hn : (L.any fun o => o.isNone) with
  | true =>
    refine ⟨none, rfl, fun {h t} q => c_made0 (k + 2) q hn, fun {h t} q => ⟨h, ?_, .refl⟩⟩
    rw [ckE (k := k + 2) (f := 15) (d := f15) rfl, runD_eq _ _ _ rfl]
    show (evSs (Γ (k + 2)) b15 [some (.v (.str (wd i))), some (.v t), none, none, none, none, none] h).out = _
    rw [b15_eq, evSs_cons, evS_ife, cond_none (k + 2) _ _ _ _ _ _ q hn, sb_ok, if_pos rfl]
    simp [optT]
  | false =>
    obtain ⟨ns, rfl⟩ := opt_all hn
    have hne : ns ≠ [] := fun z => f.ne (by rw [z]; rfl)
    have hl : ns.length ≤ 4000 := by simpa using f.len
    obtain ⟨m, e1⟩ := minI_some hne
    obtain ⟨M, e2⟩ := maxI_some hne
    obtain ⟨a, ha⟩ : ∃ a, ns.head? = some a := by
      cases ns with
      | nil => exact (hne rfl).elim
      | cons x r => exact ⟨x, rfl⟩
    obtain ⟨b, hb⟩ : ∃ b, ns.getLast? = some b := ⟨ns.getLast hne, List.getLast?_eq_some_getLast hne⟩
    have F : Fit i ns a b := by
      refine ⟨f.lt, ⟨?_, at_last hb hl⟩, fun n hn => f.bd n (by simpa using hn), hl, hne, ha, fun z => ?_⟩
      · cases ns with
        | nil => exact (hne rfl).elim
        | cons x r =>
          have e : x = a := by simpa using ha
          subst e
          rw [show (0 : Int) = ((0 : Nat) : Int) from rfl, VY.atI_nat (by simp)]
          rfl
      · have e2 := f.two z
        simp only [List.length_map] at e2
        match ns, e2 with
        | [x, y], _ =>
          have p : x = a := by simpa using ha
          have p' : y = b := by simpa using hb
          rw [p, p']
    refine ⟨lim (raw i ns a b m M), ?_, fun {h t} q => ?_, fun {h t} q => ?_⟩
    · cases raw i ns a b m M with
      | none => rfl
      | some r =>
        show letB (if -1000000000 ≤ r ∧ r ≤ 1000000000 then some r else none) = true
        split
        · rename_i c; simp [letB, c]
        · rfl
    · rw [ints_opt] at q; exact c_made_raw k q F e1 e2
    · rw [ints_opt] at q; exact c_folded (k + 2) q F e1 e2
theorem FitL.rev {i : Nat} {L : List (Option Int)} (f : FitL i L) : FitL i L.reverse := ⟨f.lt, fun n hn => f.bd n (by simpa using hn), by simpa using f.len, by simpa using f.ne, fun z => by simpa using f.two z⟩
/-- _law_right -/
theorem c_right {i : Nat} {L : List (Option Int)} (f : FitL i L) {h : Hs} {t : T} (q : Ls h t (L.map optT)) : ∃ h', Ck (k + 4) 19 [.str (wd i), t] h = .ok (.v (.bl true)) h' ∧ Gr h h' := by
  obtain ⟨r, l1, m1, d1⟩ := both k f
  obtain ⟨r2, l2, m2, d2⟩ := both k f.rev
  rw [ckE (k := k + 3) (f := 19) (d := f19) rfl, runD_eq _ _ _ rfl]
  have q1 : Ls (h ++ [.lst (L.map optT)]) (.ref h.length) (L.map optT) := .inr ⟨_, rfl, by simp⟩
  have p1 := q.grow (Gr.push (h := h) (o := .lst (L.map optT)))
  have c1 := m1 q1
  obtain ⟨h2, c2, e, rfl⟩ := d1 p1
  have c3 := (c_letter (k + 1) (h ++ [.lst (L.map optT)] ++ e) r).2
  have gg : Gr (h ++ [.lst (L.map optT)]) (h ++ [.lst (L.map optT)] ++ e) := ⟨e, rfl⟩
  have s1 := (q1.grow gg).seen
  have s2 := (p1.grow gg).seen
  have ge : (h ++ [HOb.lst (L.map optT)] ++ e)[h.length]? = some (.lst (L.map optT)) := by simp
  have st : (h ++ [HOb.lst (L.map optT)] ++ e).set h.length (.lst (L.map optT).reverse) = h ++ [.lst (L.map optT).reverse] ++ e := by simp
  have g3 : Gr h (h ++ [.lst (L.map optT).reverse] ++ e) := ⟨[.lst (L.map optT).reverse] ++ e, by simp⟩
  have rv : (L.map optT).reverse = L.reverse.map optT := by simp
  have q3 : Ls (h ++ [.lst (L.map optT).reverse] ++ e) (.ref h.length) (L.reverse.map optT) := .inr ⟨_, rfl, by rw [rv]; simp⟩
  have c4 := m2 q3
  have s3 := (q.grow g3).seen
  obtain ⟨h4, c5, g4⟩ := d2 (h := h ++ [.lst (L.map optT).reverse] ++ e) (t := .lst (L.reverse.map optT)) (.inl rfl)
  have s4 := ((q.grow g3).grow g4).seen
  have c6 := m1 (h := h4) (t := .lst (L.map optT)) (.inl rfl)
  refine ⟨h4, ?_, g3.trans g4⟩
  have b1 : bltR .list [.lst (L.map optT)] = some (.al (L.map optT)) := rfl
  have b2 : bltR .isinstance [optT r, .ty "bool"] = some (.v (.bl false)) := by cases r <;> rfl
  have sn : ∀ h' : Hs, seen h' (optT r) = optT r := fun h' => by cases r <;> rfl
  have sn2 : ∀ h' : Hs, seen h' (optT r2) = optT r2 := fun h' => by cases r2 <;> rfl
  have s0 := q.seen
  rw [l1] at c3
  generalize hl : L.map optT = l at *
  generalize hl2 : L.reverse.map optT = l' at *
  have el : eqT (.lst l) (.lst l) = some true := by rw [← hl, eqL_opt]; simp
  have c3 : Ck (k + 3) 17 [optT r] (h ++ [.lst l] ++ e) = .ok (.v (.bl true)) (h ++ [.lst l] ++ e) := c3
  generalize h ++ [HOb.lst l] ++ e = H1 at *
  generalize h ++ [HOb.lst l.reverse] ++ e = H3 at *
  rw [rv] at st
  simp [f19, b19, startT, s0, b1, c1, c2, sn, eqT_opt, g1, b2, c3, s1, s2, el, ge, st, c4, s3, rv, hl2, c5, s4, c6, sn2]
end

theorem c_take {n k' : Nat} {many : Int} {h : Hs} (bg : Bag1 h n k') (hm : 0 < many) (hl : many.natAbs.log2 < 9000) (hk : k' < 2 ^ 20) :
    ∃ d h', Ck (k + 1) 13 [.ref n, .int many] h = .ok (.v (.int d)) h' ∧ 0 ≤ d ∧ d < many ∧ Bag1 h' n (k' + 1) ∧ Only1 h h' n := by
  rw [ckE (f := 13) (d := f13) rfl]
  exact take1 _ bg hm hl hk
theorem c_bag (ns : List Int) {i : Nat} (hi : i ≤ 1000) : ∃ g b, Ck (k + 1) 12 [.slst (ns.map .int), .int i] h = .ok (.al [.int g, .int b, .int 0]) h ∧ 0 ≤ b ∧ b < 2 ^ 63 := by
  rw [ckE (f := 12) (d := f12) rfl]
  exact bag1 _ ns h hi
/-- a letter within the bounds -/
def okO (o : Option Int) : Prop := ∀ n, o = some n → -1000000000 ≤ n ∧ n ≤ 1000000000
theorem c_letterD {n k' : Nat} {h : Hs} (bg : Bag1 h n k') (hk : k' + 4 < 2 ^ 20) : ∃ o h', Ck (k + 2) 14 [.ref n] h = .ok (.v (optT o)) h' ∧ okO o ∧ Bag1 h' n (k' + 4) ∧ Only1 h h' n := by
  obtain ⟨d1, h1, e1, p1, q1, b1', o1⟩ := c_take k (many := 12) bg (by decide) (by decide) (by omega)
  rw [ckE (k := k + 1) (f := 14) (d := f14) rfl, runD_eq _ _ _ rfl]
  by_cases c : d1 < 9
  · obtain ⟨d2, h2, e2, p2, q2, b2', o2⟩ := c_take k (many := 4) b1' (by decide) (by decide) (by omega)
    exact ⟨some d2, h2, by simp [f14, b14, startT, e1, e2, c, optT], fun m e => by cases e; omega, b2'.le (by omega), o1.trans o2⟩
  · by_cases c9 : d1 = 9
    · obtain ⟨d2, h2, e2, p2, q2, b2', o2⟩ := c_take k (many := 41) b1' (by decide) (by decide) (by omega)
      subst c9
      exact ⟨some (d2 - 20), h2, by simp [f14, b14, startT, e1, e2, optT], fun m e => by cases e; omega, b2'.le (by omega), o1.trans o2⟩
    · obtain ⟨d2, h2, e2, p2, q2, b2', o2⟩ := c_take k (many := 1000) b1' (by decide) (by decide) (by omega)
      obtain ⟨d3, h3, e3, p3, q3, b3', o3⟩ := c_take k (many := 3) b2' (by decide) (by decide) (by omega)
      obtain ⟨d4, h4, e4, p4, q4, b4', o4⟩ := c_take k (many := 3) b3' (by decide) (by decide) (by omega)
      have sl : (3 : Nat) ≤ SL := by decide
      have all : ∃ o, atI [T.non, .int (1000000000 - d2), .int (d3 - 1000000000)] d4 = some (optT o) ∧ okO o := by
        have : d4 = 0 ∨ d4 = 1 ∨ d4 = 2 := by omega
        rcases this with rfl | rfl | rfl
        · exact ⟨none, rfl, fun m e => by cases e⟩
        · exact ⟨some (1000000000 - d2), rfl, fun m e => by cases e; omega⟩
        · exact ⟨some (d3 - 1000000000), rfl, fun m e => by cases e; omega⟩
      obtain ⟨o, a1, a2⟩ := all
      exact ⟨o, h4, by simp [f14, b14, startT, e1, e2, e3, e4, c, c9, sl, a1], a2, b4', ((o1.trans o2).trans o3).trans o4⟩

abbrev L10 (ns : List Int) (s1 s2 s3 s4 s5 s6 s7 s8 s9 : Option Sl) : Slots := [some (.v (.slst (ns.map .int))), s1, s2, s3, s4, s5, s6, s7, s8, s9]
def woB : List S := [.ife (.not (.t (.call 19 [.var 8, .ife (.t (.cmp .Gt (.mth .index (.call 18 []) [.var 8]) (.c (.int 4)))) (.var 7) (.var 6)]))) [.ret (.c (.bl false))] []]
def tuA : List S := [.asg 6 (.lc (.call 14 [.var 4]) (.nm 9) (.r1 (.bin .Add (.c (.int 1)) (.call 13 [.var 4, .c (.int 6)]))) .yes), .fz 6]
def tuB : List S := [.ife (.t (.cmp .Eq (.call 13 [.var 4, .c (.int 5)]) (.c (.int 0)))) [.asg 6 (.bin .Mult (.sl (.var 6) .no (.at (.c (.int 1)))) (.blt .len [.var 6])), .fz 6] []]
def tuC : List S := [.asg 7 (.bin .Add (.sl (.var 6) .no (.at (.c (.int 1)))) (.lst [.call 14 [.var 4]])), .pr 7]
def tuD : List S := [.ife (.t (.cmp .Eq (.call 13 [.var 4, .c (.int 4)]) (.c (.int 0)))) [.setIx (.var 7) (.c (.int 1)) (.c (.int 0))] []]
def tuE : List S := [.for (.nm 8) (.e (.call 18 [])) woB]
def ceB : List S := [.asg 4 (.call 12 [.var 0, .var 1]), .pr 4, .for (.nm 5) (.r1 (.c (.int 3))) (tuA ++ (tuB ++ (tuC ++ (tuD ++ tuE))))]
theorem b20_eq : ∃ tl, b20 = .for (.nm 1) (.r1 (.blt .max [.c (.int 3), .blt .min [.c (.int 8), .blt .len [.var 0]]])) ceB :: tl := ⟨_, rfl⟩
def wordsT : List T := [.str "plus", .str "times", .str "least", .str "most", .str "same", .str "less", .str "over", .str "rest", .str "below"]
theorem words_at {i : Nat} {x : T} (e : wordsT[i]? = some x) : x = .str (wd i) ∧ i < 9 ∧ idxT (.str (wd i)) wordsT = some i := by
  have hi : i < 9 := (List.getElem?_eq_some_iff.mp e).1
  have : i = 0 ∨ i = 1 ∨ i = 2 ∨ i = 3 ∨ i = 4 ∨ i = 5 ∨ i = 6 ∨ i = 7 ∨ i = 8 := by omega
  rcases this with rfl | rfl | rfl | rfl | rfl | rfl | rfl | rfl | rfl <;> (cases e; exact ⟨rfl, hi, by decide +kernel⟩)
theorem c_words : Ck (k + 1) 18 [] h = .ok (.al wordsT) h := by
  rw [ckE (f := 18) (d := f18) rfl, runD_eq _ _ _ rfl]
  have sl : (9 : Nat) ≤ SL := by decide
  simp [f18, b18, startT, sl, wordsT]
/-- letters of a turn: one at least, all within the bounds -/
structure Lets (L : List (Option Int)) : Prop where
  bd : ∀ o ∈ L, okO o
  len : L.length ≤ 4000
  ne : L ≠ []
theorem Lets.fit {L : List (Option Int)} (a : Lets L) {i : Nat} (hi : i < 9) (h2 : 4 < i → L.length = 2) : FitL i L := ⟨hi, fun n hn => a.bd _ hn n rfl, a.len, a.ne, h2⟩
abbrev G4 : VY.Ctx := Γk 4
/-- a word's turn -/
theorem word_turn (ns : List Int) {L M : List (Option Int)} {nb : Nat} (l1 : Lets L) (l2 : Lets M) (h2 : M.length = 2) {i : Nat} {x : T} (e : wordsT[i]? = some x) {s1 s2 s3 s4 s5 s9 : Option Sl} {h : Hs} (eb : h[nb]? = some (.lst (M.map optT))) :
    ∃ h', evSs G4 woB (L10 ns s1 s2 s3 s4 s5 (some (.v (.lst (L.map optT)))) (some (.v (.ref nb))) (some (.v x)) s9) h = .ok .nx (L10 ns s1 s2 s3 s4 s5 (some (.v (.lst (L.map optT)))) (some (.v (.ref nb))) (some (.v x)) s9) h' ∧ Gr h h' := by
  obtain ⟨rfl, hi, ix⟩ := words_at e
  have cw := c_words 3 h
  simp only [Nat.reduceAdd] at cw
  by_cases c : 4 < i
  · obtain ⟨h', e', g'⟩ := c_right 0 (l2.fit hi (fun _ => h2)) (h := h) (t := .ref nb) (.inr ⟨nb, rfl, eb⟩)
    simp only [Nat.reduceAdd] at e'
    have c' : (4 : Int) < i := by omega
    exact ⟨h', by simp [woB, cw, ix, c', e'], g'⟩
  · obtain ⟨h', e', g'⟩ := c_right 0 (l1.fit hi (fun z => (c z).elim)) (h := h) (t := .lst (L.map optT)) (.inl rfl)
    simp only [Nat.reduceAdd] at e'
    have c' : ¬ (4 : Int) < i := by omega
    exact ⟨h', by simp [woB, cw, ix, c', e'], g'⟩
theorem e_run (ns : List Int) {L M : List (Option Int)} {nb : Nat} (l1 : Lets L) (l2 : Lets M) (h2 : M.length = 2) {s1 s2 s3 s4 s5 s8 s9 : Option Sl} {h : Hs} (eb : h[nb]? = some (.lst (M.map optT))) :
    ∃ h' s8', evSs G4 tuE (L10 ns s1 s2 s3 s4 s5 (some (.v (.lst (L.map optT)))) (some (.v (.ref nb))) s8 s9) h = .ok .nx (L10 ns s1 s2 s3 s4 s5 (some (.v (.lst (L.map optT)))) (some (.v (.ref nb))) s8' s9) h' ∧ Gr h h' := by
  obtain ⟨σ1, h1, e1, ⟨s8', rfl⟩, g1⟩ := forL_run (body := forB G4 (.nm 8) woB) (fun _ σ h' => (∃ s8', σ = L10 ns s1 s2 s3 s4 s5 (some (.v (.lst (L.map optT)))) (some (.v (.ref nb))) s8' s9) ∧ Gr h h') wordsT 0 (fun i x ex σ h' q => by
    obtain ⟨⟨s8', rfl⟩, g⟩ := q
    obtain ⟨h2', e2, g2⟩ := word_turn ns l1 l2 h2 ex (s1 := s1) (s2 := s2) (s3 := s3) (s4 := s4) (s5 := s5) (s9 := s9) (g.get eb)
    exact ⟨_, h2', .inl (by rw [forB_nm]; exact e2), ⟨_, rfl⟩, g.trans g2⟩) (L10 ns s1 s2 s3 s4 s5 (some (.v (.lst (L.map optT)))) (some (.v (.ref nb))) s8 s9) h ⟨⟨_, rfl⟩, .refl⟩
  have cw := c_words 3 h
  simp only [Nat.reduceAdd] at cw
  exact ⟨h1, s8', by simp [tuE, cw, e1], g1⟩
/-- letters drawn one by one -/
theorem lc_letters {σ : Slots} {n : Nat} (e4 : (wipeT σ [9])[4]? = some (some (.v (.ref n)))) (hs : 9 < σ.length) : ∀ (xs : List T) (L : List (Option Int)) (h : Hs) (k' : Nat), Bag1 h n k' → k' + 4 * xs.length < 2 ^ 20 → (∀ o ∈ L, okO o) → L.length + xs.length ≤ 4000 →
    ∃ L' h', lcL (lcT G4 (.call 14 [.var 4]) (.nm 9) .yes σ) none xs (L.map optT) h = .ok ((L ++ L').map optT) h' ∧ L'.length = xs.length ∧ (∀ o ∈ L', okO o) ∧ Bag1 h' n (k' + 4 * xs.length) ∧ Only1 h h' n
  | [], L, h, k', bg, _, _, _ => ⟨[], h, by simp, rfl, by simp, bg, .refl⟩
  | x :: xs, L, h, k', bg, hk, hL, hl => by
    simp only [List.length_cons] at hk hl
    obtain ⟨o, h1, e1, oo, b1, o1⟩ := c_letterD 2 bg (by omega)
    simp only [Nat.reduceAdd] at e1
    obtain ⟨L', h', e2, l2, ok2, b2, o2⟩ := lc_letters e4 hs xs (L ++ [o]) h1 (k' + 4) b1 (by omega) (by
      intro p hp
      rcases List.mem_append.mp hp with hp | hp
      · exact hL p hp
      · simp at hp; subst hp; exact oo) (by simp; omega)
    refine ⟨o :: L', h', ?_, by simp [l2], ?_, by rw [List.length_cons, show k' + 4 * (xs.length + 1) = k' + 4 + 4 * xs.length by omega]; exact b2, o1.trans o2⟩
    · have v4 : ((wipeT σ [9]).set 9 (some (.v x)))[4]? = some (some (.v (.ref n))) := by rw [List.getElem?_set_ne (by decide)]; exact e4
      have f : lcT G4 (.call 14 [.var 4]) (.nm 9) .yes σ x h = .ok (some (optT o)) h1 := by
        simp [lcT, noex, Tg.ixs, v4, e1]
      rw [lcL, gdB_none, if_pos rfl, f, Out.bind_ok]
      have lt : (L.map optT).length < SL := by
        have : SL = 16777216 := rfl
        rw [List.length_map]; omega
      simp only []
      rw [if_pos lt]
      simpa using e2
    · intro p hp
      rcases List.mem_cons.mp hp with rfl | hp
      · exact oo
      · exact ok2 p hp
theorem a_run (ns : List Int) {n k' : Nat} {h : Hs} (bg : Bag1 h n k') (hk : k' + 40 < 2 ^ 20) {s1 s2 s3 s5 s6 s7 s8 s9 : Option Sl} :
    ∃ L h', evSs G4 tuA (L10 ns s1 s2 s3 (some (.v (.ref n))) s5 s6 s7 s8 s9) h = .ok .nx (L10 ns s1 s2 s3 (some (.v (.ref n))) s5 (some (.v (.lst (L.map optT)))) s7 s8 s9) h' ∧ Lets L ∧ L.length ≤ 6 ∧ Bag1 h' n (k' + 30) ∧ Only1 h h' n := by
  obtain ⟨d, h1, e1, p1, q1, b1, o1⟩ := c_take 3 (many := 6) bg (by decide) (by decide) (by omega)
  simp only [Nat.reduceAdd] at e1
  have r : rngT 0 (1 + d) = some ((List.range (1 + d.toNat)).map fun k : Nat => .int k) := rng0 (by omega) (by omega)
  obtain ⟨L, h2, e2, l2, ok2, b2, o2⟩ := lc_letters (σ := L10 ns s1 s2 s3 (some (.v (.ref n))) s5 s6 s7 s8 s9) (n := n) rfl (show 9 < 10 by decide) ((List.range (1 + d.toNat)).map fun k : Nat => T.int k) [] h1 (k' + 1) b1 (by simp; omega) (by simp) (by simp; omega)
  simp only [List.length_map, List.length_range] at l2 b2
  rw [List.nil_append] at e2
  refine ⟨L, h2, ?_, ⟨ok2, by omega, fun z => by rw [z] at l2; simp at l2; omega⟩, by omega, b2.le (by omega), o1.trans o2⟩
  have e2 : lcL (lcT G4 (.call 14 [.var 4]) (.nm 9) .yes (L10 ns s1 s2 s3 (some (.v (.ref n))) s5 s6 s7 s8 s9)) none ((List.range (1 + d.toNat)).map fun k : Nat => T.int k) [] h1 = .ok (L.map optT) h2 := e2
  simp [tuA, e1, r, e2]
theorem opR_rep {l : List T} {k : Int} (c : -(2 ^ 63) ≤ k ∧ k < 2 ^ 63 ∧ l.length * k.toNat ≤ SL) : opR .Mult (.lst l) (.int k) = some (.al (List.replicate k.toNat l).flatten) := if_pos c
theorem b_run (ns : List Int) {n k' : Nat} {h : Hs} {L : List (Option Int)} (a : Lets L) (hL : L.length ≤ 6) (bg : Bag1 h n k') (hk : k' + 40 < 2 ^ 20) {s1 s2 s3 s5 s7 s8 s9 : Option Sl} :
    ∃ L' h', evSs G4 tuB (L10 ns s1 s2 s3 (some (.v (.ref n))) s5 (some (.v (.lst (L.map optT)))) s7 s8 s9) h = .ok .nx (L10 ns s1 s2 s3 (some (.v (.ref n))) s5 (some (.v (.lst (L'.map optT)))) s7 s8 s9) h' ∧ Lets L' ∧ Bag1 h' n (k' + 1) ∧ Only1 h h' n := by
  obtain ⟨d, h1, e1, p1, q1, b1, o1⟩ := c_take 3 (many := 5) bg (by decide) (by decide) (by omega)
  simp only [Nat.reduceAdd] at e1
  by_cases c : d = 0
  · subst c
    cases L with
    | nil => exact (a.ne rfl).elim
    | cons o r =>
      have ct : cutT (optT o :: r.map optT) none (some 1) = [optT o] := by
        simp [cutT, HT.sIx]
      have rp : opR .Mult (.lst [optT o]) (.int ((r.length : Int) + 1)) = some (.al ((List.replicate (r.length + 1) o).map optT)) := by
        have c : -(2 ^ 63) ≤ ((r.length : Int) + 1) ∧ ((r.length : Int) + 1) < 2 ^ 63 ∧ [optT o].length * ((r.length : Int) + 1).toNat ≤ SL := by
          have e : SL = 16777216 := rfl
          have hL : r.length + 1 ≤ 6 := hL
          have l1 : [optT o].length = 1 := rfl
          rw [l1, e]
          omega
        have fl : ∀ n : Nat, (List.replicate n [optT o]).flatten = (List.replicate n o).map optT := fun n => by
          induction n with
          | zero => rfl
          | succ n ih => rw [List.replicate_succ, List.replicate_succ, List.flatten_cons, ih]; rfl
        rw [opR_rep c, show ((r.length : Int) + 1).toNat = r.length + 1 by omega, fl]
      refine ⟨List.replicate (r.length + 1) o, h1, by simp [tuB, e1, ct, rp], ⟨fun p hp => ?_, by simp; simp at hL; omega, by simp⟩, b1, o1⟩
      rw [List.eq_of_mem_replicate hp]
      exact a.bd o (by simp)
  · exact ⟨L, h1, by simp [tuB, e1, c], a, b1, o1⟩
theorem c_run (ns : List Int) {n k' : Nat} {h : Hs} {L : List (Option Int)} (a : Lets L) (bg : Bag1 h n k') (hn : n < h.length) (hk : k' + 40 < 2 ^ 20) {s1 s2 s3 s5 s7 s8 s9 : Option Sl} :
    ∃ M h', evSs G4 tuC (L10 ns s1 s2 s3 (some (.v (.ref n))) s5 (some (.v (.lst (L.map optT)))) s7 s8 s9) h = .ok .nx (L10 ns s1 s2 s3 (some (.v (.ref n))) s5 (some (.v (.lst (L.map optT)))) (some (.v (.ref h.length))) s8 s9) h' ∧ Lets M ∧ M.length = 2 ∧ Bag1 h' n (k' + 4) ∧ h'.length = h.length + 1 ∧ h'[h.length]? = some (.lst (M.map optT)) := by
  obtain ⟨o, h1, e1, oo, b1, o1⟩ := c_letterD 2 bg (by omega)
  simp only [Nat.reduceAdd] at e1
  cases L with
  | nil => exact (a.ne rfl).elim
  | cons p r =>
    have ct : cutT (optT p :: r.map optT) none (some 1) = [optT p] := by simp [cutT, HT.sIx]
    have sl1 : (1 : Nat) ≤ SL := by decide
    have ad : opR .Add (.lst [optT p]) (.lst [optT o]) = some (.al [optT p, optT o]) := rfl
    have ol : opL (L10 ns s1 s2 s3 (some (.v (.ref n))) s5 (some (.v (.lst (optT p :: r.map optT)))) s7 s8 s9) .Add (.al [optT p]) (.al [optT o]) h1 = .ok (.al [optT p, optT o]) h1 := rfl
    refine ⟨[p, o], h1 ++ [.lst ([p, o].map optT)], by simp [tuC, ct, e1, sl1, ol, o1.len], ⟨fun q hq => ?_, by simp, by simp⟩, rfl, b1.grow Gr.push, by simp [o1.len], by rw [← o1.len]; simp⟩
    simp at hq
    rcases hq with rfl | rfl
    · exact a.bd _ (by simp)
    · exact oo
theorem d_run (ns : List Int) {n nb k' : Nat} {h : Hs} {M : List (Option Int)} (a : Lets M) (h2 : M.length = 2) (bg : Bag1 h n k') (ne : n ≠ nb) (eb : h[nb]? = some (.lst (M.map optT))) (hk : k' + 40 < 2 ^ 20) {s1 s2 s3 s5 s6 s8 s9 : Option Sl} :
    ∃ M' h', evSs G4 tuD (L10 ns s1 s2 s3 (some (.v (.ref n))) s5 s6 (some (.v (.ref nb))) s8 s9) h = .ok .nx (L10 ns s1 s2 s3 (some (.v (.ref n))) s5 s6 (some (.v (.ref nb))) s8 s9) h' ∧ Lets M' ∧ M'.length = 2 ∧ Bag1 h' n (k' + 1) ∧ h'[nb]? = some (.lst (M'.map optT)) := by
  obtain ⟨d, h1, e1, p1, q1, b1, o1⟩ := c_take 3 (many := 4) bg (by decide) (by decide) (by omega)
  simp only [Nat.reduceAdd] at e1
  have eb1 : h1[nb]? = some (.lst (M.map optT)) := (o1.same nb (Ne.symm ne)).trans eb
  by_cases c : d = 0
  · subst c
    match M, h2 with
    | [p, q], _ =>
      have hn : nb < h1.length := (List.getElem?_eq_some_iff.mp eb1).1
      have eb2 : h1[nb]? = some (.lst [optT p, optT q]) := eb1
      have i1 : ixN 2 1 = some 1 := rfl
      refine ⟨[p, some 0], h1.set nb (.lst [optT p, .int 0]), by simp [tuD, e1, eb2, i1], ⟨fun r hr => ?_, by simp, by simp⟩, rfl, ?_, List.getElem?_set_self hn⟩
      · simp at hr
        rcases hr with rfl | rfl
        · exact a.bd _ (by simp)
        · exact fun m e => by cases e; decide
      · obtain ⟨g, b, c, e, q⟩ := b1
        exact ⟨g, b, c, (List.getElem?_set_ne (Ne.symm ne)).trans e, q⟩
  · exact ⟨M, h1, by simp [tuD, e1, c], a, h2, b1, eb1⟩
/-- one turn -/
theorem turn_run (ns : List Int) {n k' : Nat} {h : Hs} (bg : Bag1 h n k') (hk : k' + 100 < 2 ^ 20) {s1 s2 s3 s5 s6 s7 s8 s9 : Option Sl} :
    ∃ t6 t7 t8 h', evSs G4 (tuA ++ (tuB ++ (tuC ++ (tuD ++ tuE)))) (L10 ns s1 s2 s3 (some (.v (.ref n))) s5 s6 s7 s8 s9) h = .ok .nx (L10 ns s1 s2 s3 (some (.v (.ref n))) s5 t6 t7 t8 s9) h' ∧ Bag1 h' n (k' + 40) := by
  obtain ⟨L, h1, e1, a1, l1, b1, _⟩ := a_run ns bg (by omega) (s1 := s1) (s2 := s2) (s3 := s3) (s5 := s5) (s6 := s6) (s7 := s7) (s8 := s8) (s9 := s9)
  obtain ⟨L2, h2, e2, a2, b2, _⟩ := b_run ns a1 l1 b1 (by omega) (s1 := s1) (s2 := s2) (s3 := s3) (s5 := s5) (s7 := s7) (s8 := s8) (s9 := s9)
  have hn : n < h2.length := by
    obtain ⟨g, b, c, e, _⟩ := b2
    exact (List.getElem?_eq_some_iff.mp e).1
  obtain ⟨M, h3, e3, a3, l3, b3, z3, m3⟩ := c_run ns a2 b2 hn (by omega) (s1 := s1) (s2 := s2) (s3 := s3) (s5 := s5) (s7 := s7) (s8 := s8) (s9 := s9)
  obtain ⟨M', h4, e4, a4, l4, b4, m4⟩ := d_run ns a3 l3 b3 (by omega) m3 (by omega) (s1 := s1) (s2 := s2) (s3 := s3) (s5 := s5) (s6 := some (.v (.lst (L2.map optT)))) (s8 := s8) (s9 := s9)
  obtain ⟨h5, s8', e5, g5⟩ := e_run ns a2 a4 l4 m4 (s1 := s1) (s2 := s2) (s3 := s3) (s4 := some (.v (.ref n))) (s5 := s5) (s8 := s8) (s9 := s9)
  refine ⟨some (.v (.lst (L2.map optT))), some (.v (.ref h2.length)), s8', h5, ?_, (b4.grow g5).le (by omega)⟩
  rw [evSs_app, e1, SO.seq_nx, evSs_app, e2, SO.seq_nx, evSs_app, e3, SO.seq_nx, evSs_app, e4, SO.seq_nx, e5]
theorem cell_turn (ns : List Int) (i : Nat) (hi : i ≤ 1000) {s1 s2 s3 s4 s5 s6 s7 s8 s9 : Option Sl} {h : Hs} :
    ∃ t1 t4 t5 t6 t7 t8 h', forB G4 (.nm 1) ceB (.int i) (L10 ns s1 s2 s3 s4 s5 s6 s7 s8 s9) h = .ok .nx (L10 ns t1 s2 s3 t4 t5 t6 t7 t8 s9) h' := by
  obtain ⟨g, b, e1, b1, b2⟩ := c_bag 3 h ns hi
  simp only [Nat.reduceAdd] at e1
  have bg : Bag1 (h ++ [.lst [.int g, .int b, .int 0]]) h.length 0 := ⟨g, b, 0, by simp, b1, b2, by decide, by decide⟩
  have r3 : rngT 0 3 = some ((List.range 3).map fun k : Nat => .int k) := rng0 (by decide) (by decide)
  obtain ⟨σ1, h1, f1, k', ⟨u5, u6, u7, u8, rfl⟩, bg1, hk⟩ := forL_run (body := forB G4 (.nm 5) (tuA ++ (tuB ++ (tuC ++ (tuD ++ tuE)))))
    (fun j σ h' => ∃ k', (∃ u5 u6 u7 u8, σ = L10 ns (some (.v (.int i))) s2 s3 (some (.v (.ref h.length))) u5 u6 u7 u8 s9) ∧ Bag1 h' h.length k' ∧ k' ≤ 40 * j) ((List.range 3).map fun k : Nat => .int k) 0 (fun j x ex σ h' q => by
      obtain ⟨k', ⟨u5, u6, u7, u8, rfl⟩, bg, hk⟩ := q
      obtain ⟨rfl, hj⟩ := rng_get ex
      obtain ⟨t6, t7, t8, h2, e, bg2⟩ := turn_run ns bg (by omega) (s1 := some (.v (.int i))) (s2 := s2) (s3 := s3) (s5 := some (.v (.int j))) (s6 := u6) (s7 := u7) (s8 := u8) (s9 := s9)
      exact ⟨_, h2, .inl (by rw [forB_nm]; exact e), k' + 40, ⟨_, _, _, _, rfl⟩, bg2, by omega⟩) (L10 ns (some (.v (.int i))) s2 s3 (some (.v (.ref h.length))) s5 s6 s7 s8 s9) _ ⟨0, ⟨_, _, _, _, rfl⟩, bg, by omega⟩
  refine ⟨some (.v (.int i)), some (.v (.ref h.length)), u5, u6, u7, u8, h1, ?_⟩
  rw [forB_nm]
  simp [ceB, e1, r3, f1]
def tailB : List S := b20.drop 1
theorem tail_run (ns : List Int) (s1 s4 s5 s6 s7 s8 s9 : Option Sl) (h : Hs) : (evSs G4 tailB (L10 ns s1 none none s4 s5 s6 s7 s8 s9) h).out = .ok (.v (.bl true)) h := by
  kernel_rfl
theorem hlaw : ∀ ns : List Int, ns.length ≤ 63 → ∃ h', callK (pgOf F gs wds) KK 20 [.slst (ns.map .int)] [] = .ok (.v (.bl true)) h' := by
  intro ns hn
  have e0 := ckE (k := 4) (f := 20) (d := f20) rfl [.slst (ns.map .int)] []
  refine Exists.imp (fun h' e => e0.trans e) ?_
  rw [runD_eq _ _ _ rfl]
  obtain ⟨m, _, hm, ei⟩ := it_lim G4 false (i := 0) (σ := L10 ns none none none none none none none none none) 3 8 [] rfl (by decide) (by decide) (by decide)
  obtain ⟨σ1, h1, f1, t1, t4, t5, t6, t7, t8, rfl⟩ := forL_run (body := forB G4 (.nm 1) ceB)
    (fun j σ h' => ∃ t1 t4 t5 t6 t7 t8, σ = L10 ns t1 none none t4 t5 t6 t7 t8 none) ((List.range m).map fun k : Nat => .int k) 0 (fun j x ex σ h' q => by
      obtain ⟨t1, t4, t5, t6, t7, t8, rfl⟩ := q
      obtain ⟨rfl, hj⟩ := rng_get ex
      obtain ⟨u1, u4, u5, u6, u7, u8, h2, e⟩ := cell_turn ns j (by omega) (s1 := t1) (s2 := none) (s3 := none) (s4 := t4) (s5 := t5) (s6 := t6) (s7 := t7) (s8 := t8) (s9 := none) (h := h')
      exact ⟨_, h2, .inl e, _, _, _, _, _, _, rfl⟩) (L10 ns none none none none none none none none none) [] ⟨_, _, _, _, _, _, rfl⟩
  refine ⟨h1, ?_⟩
  have ft := tail_run ns t1 t4 t5 t6 t7 t8 none h1
  show (evSs G4 (.for (.nm 1) (.r1 (.blt .max [.c (.int 3), .blt .min [.c (.int 8), .blt .len [.var 0]]])) ceB :: tailB) (L10 ns none none none none none none none none none) []).out = _
  rw [evSs_cons, evS_for, ei, sb_ok, f1, SO.seq_nx, ft]
end
end K02
namespace K02
open VY PySem L2
theorem fin {P : Program} {w : World} {h : Heap} {mg : Str → Option Value} {fa : Addr} (Y : hk.says w h) (G : h.Ns mainGlobals mg) (hm : mg ("law" : Str) = some (.ref fa)) :
    ∃ (K : PySem.W.Frag) (fd : FuncData) (sp : Sp), K.In h ∧ (∀ (s : Shared) (u : Value), BindsTo s fd ⟨[u], []⟩ [("_law_script", u)]) ∧
        (∀ (H : Hp) (a : Addr) (ns : List Int), ns.length ≤ 63 → Only H → SqL K H a (ns.map V.int) → sp [.ref a] H (fun v _ => v = .bl true) fun _ _ _ => False) ∧
        ∀ base : Heap, K.In base → base.Ns mainGlobals mg → FnOk P w K mg base (L2.CX P w) KK fa fd ["_law_script"] sp := by
  obtain ⟨K, KX, c⟩ := Y
  obtain ⟨fd, sp, h1, h2, h3⟩ := vy_law (P := P) KX G c okA tyA (li := 20) (k := KK) (most := 63) (dl := F20) (x := "_law_script") rfl rfl hm hlaw
  exact ⟨K, fd, sp, KX, h1, h2, h3⟩
end K02
open PySem PySem.W PySem.Calls PyProof.Rows
theorem PySem.Challenge.cw_oweback_k02_folds_made_holds : PySem.Challenge.rw_oweback_k02_folds_made.Holds := by
  w_on; o_law
  refine HandSHeadRun.head_any (r := K02.Rw) (q := K02.VwP) (H := K02.hk) (ob := K02.ob) (M := 9000) (loose := K02.names) (d := HandSHeadRun.topDef (K02.Rw).prog 24) (kwd := []) K02.ob_eq
    (by kernel_rfl) (fun s => by kernel_rfl) K02.run (by kernel_rfl) (by kernel_rfl) (by kernel_rfl) (by rfl) (by first | assumption | decide +kernel) (by decide +kernel) ⟨rfl, rfl, rfl, rfl, rfl, by decide +kernel⟩ ?hw ?hc
  case hw => w_witness2
  case hc =>
    refine VY.walk_vy (l := PySem.Challenge.rw_oweback_k02_folds_made) (n := 63) (k := K02.KK) (x := "_law_script") rfl (by decide) (by kernel_rfl) ⟨rfl, by decide, by decide⟩ ?F
    case F =>
      intro w mg fa h Y G hm0
      have hm : mg ("law" : PySem.Str) = some (.ref fa) := by
        have e : (HandSHeadRun.topDef (K02.Rw).prog 24).name = ("law" : PySem.Str) := by kernel_rfl
        rw [← e]
        exact hm0
      exact K02.fin Y G hm
