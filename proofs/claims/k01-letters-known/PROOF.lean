import PyProof.Rows.All
import HandS.ForMost
import HandS.ForExc
import HandS.Flow
import HandS.IsInst
import HandS.Deep
import HandS.Wide
import HandS.Style
import HandS.Defaults
import HandS.HeadHook4
import HandS.CallSlots
import HandS.HeadEnd
import HandS.Head0
import HandS.Head1
import HandS.Head2
import PySem.Challenge.RW_oweback_k01_letters_known
set_option Elab.async false
set_option linter.all false
set_option maxRecDepth 100000
set_option maxHeartbeats 0
namespace VY
open PySem L2

/-- a value: immutable containers as trees; slst: a list that the top or the caller holds, read only; ref: a mutable object of the small heap -/
inductive T where
  | non | bl (b : Bool) | int (i : Int) | str (s : Str) | ty (n : String) | gl (x : Str) | ref (n : Nat)
  | tup (l : List T) | lst (l : List T) | slst (l : List T) | dct (l : List (Key × T))
  deriving Inhabited
/-- a mutable object -/
inductive HOb where
  | lst (l : List T) | dct (l : List (Key × T)) | ins (c : Str) (fs : List (Str × T)) | dead
/-- what an expression gives: a value, a fresh list that nobody else holds, the list that slot i owns -/
inductive R where
  | v (t : T) | al (l : List T) | bw (i : Nat)
/-- a slot: a value, or a list that it owns -/
inductive Sl where
  | v (t : T) | al (l : List T)
abbrev Slots := List (Option Sl)
abbrev Hs := List HOb
/-- an exception: a built-in class, an own class with its fields -/
inductive Xn where
  | blt (n : String) | own (c : Str) (fs : List (Str × T))
inductive Out (α : Type) where
  | ok (a : α) (h : Hs) | ex (x : Xn) (h : Hs) | bad
namespace Out
def bind {α β : Type} : Out α → (α → Hs → Out β) → Out β
  | .ok a h, f => f a h
  | .ex x h, _ => .ex x h
  | .bad, _ => .bad
@[simp] theorem bind_ok {α β : Type} (a : α) (h : Hs) (f : α → Hs → Out β) : (Out.ok a h).bind f = f a h := (rfl)
@[simp] theorem bind_ex {α β : Type} (x : Xn) (h : Hs) (f : α → Hs → Out β) : (Out.ex x h).bind f = .ex x h := (rfl)
@[simp] theorem bind_bad {α β : Type} (f : α → Hs → Out β) : (Out.bad : Out α).bind f = .bad := (rfl)
end Out
def lift {α : Type} : Option α → Hs → Out α
  | some a, h => .ok a h
  | none, _ => .bad
@[simp] theorem lift_some {α : Type} (a : α) (h : Hs) : lift (some a) h = .ok a h := (rfl)
@[simp] theorem lift_none {α : Type} (h : Hs) : lift (none : Option α) h = .bad := (rfl)

inductive CT where
  | non | bl (b : Bool) | int (i : Int) | str (s : Str)
def CT.t : CT → T
  | .non => .non | .bl b => .bl b | .int i => .int i | .str s => .str s
/-- the built-in functions -/
inductive Bf where
  | len | abs | int | str | isinstance | max | min | tuple | list
  deriving DecidableEq
/-- a target -/
inductive Tg where
  | nm (i : Nat) | tp (l : List Tg)
mutual
inductive E where
  | c (k : CT) | var (i : Nat) | gl (x : Nat)
  | bin (op : Operator) (a b : E) | neg (a : E) | not (a : E) | bop (op : BoolOp) (es : List E)
  | cmp (op : CmpOp) (a b : E) | ch (op op' : CmpOp) (a b c : E) | ife (c : C) (a b : E)
  | tup (es : List E) | lst (es : List E) | ix (a b : E) | sl (a : E) (lo hi : O)
  | call (f : Nat) (es : List E) | blt (f : Bf) (es : List E)
  | lc (elt : E) (tg : Tg) (it : It) (cond : C)
/-- a part of a slice -/
inductive O where
  | no | at (e : E)
/-- what is walked -/
inductive It where
  | e (x : E) | r1 (a : E) | r2 (a b : E)
/-- a test; yes: none -/
inductive C where
  | yes | t (e : E) | not (c : C) | bop (op : BoolOp) (cs : List C)
end
inductive S where
  | asg (i : Nat) (e : E) | asgT (tg : Tg) (e : E) | setIx (o i e : E) | expr (e : E)
  | ret (e : E) | retS (i : Nat) | retN | ife (c : C) (a b : List S) | for (tg : Tg) (it : It) (body : List S)
  | whl (c : C) (body : List S) | brk | cnt | pass | app (i : Nat) (e : E) | fz (i : Nat) | pr (i : Nat)
  | par2 (i j : Nat) (a b : E) | par3 (i j l : Nat) (a b c : E)

abbrev SL : Nat := 16777216
def peek (σ : Slots) : R → Option T
  | .v t => some t
  | .al l => some (.lst l)
  | .bw i => match σ[i]? with
    | some (some (.al l)) => some (.lst l)
    | _ => none
def frz : R → Option T
  | .v t => some t
  | .al l => some (.lst l)
  | .bw _ => none
def mulOk (i j : Int) : Bool := decide (-(2 ^ 64) < i ∧ i < 2 ^ 64) || decide (-(2 ^ 64) < j ∧ j < 2 ^ 64) || decide (i.natAbs.log2 + j.natAbs.log2 < 1000000)
def fdivT (i j : Int) : Option Int :=
  if 0 < j ∧ j.natAbs.log2 < 9000 then some (i / j) else if j ≠ 0 ∧ j.natAbs < 1073741824 then some (i.fdiv j) else none
def modT (i j : Int) : Option Int := if 0 < j then some (i % j) else if j ≠ 0 then some (i.fmod j) else none
def powT (i j : Int) : Option Int := if 0 ≤ j ∧ (Builtin.Int.intBits i : Int) * j ≤ 2 ^ 27 then some (i ^ j.toNat) else none
def opR : Operator → T → T → Option R
  | .Add, .int i, .int j => some (.v (.int (i + j)))
  | .Add, .str a, .str b => if a.length + b.length ≤ SL then some (.v (.str (a ++ b))) else none
  | .Add, .lst a, .lst b => if a.length + b.length ≤ SL then some (.al (a ++ b)) else none
  | .Sub, .int i, .int j => some (.v (.int (i - j)))
  | .Mult, .int i, .int j => if mulOk i j then some (.v (.int (i * j))) else none
  | .Mult, .lst a, .int k => if -(2 ^ 63) ≤ k ∧ k < 2 ^ 63 ∧ a.length * k.toNat ≤ SL then some (.al (List.replicate k.toNat a).flatten) else none
  | .FloorDiv, .int i, .int j => (fdivT i j).map fun r => .v (.int r)
  | .Mod, .int i, .int j => (modT i j).map fun r => .v (.int r)
  | .Pow, .int i, .int j => (powT i j).map fun r => .v (.int r)
  | _, _, _ => none
mutual
/-- data without objects -/
def toD : T → Option PyData
  | .non => some .none
  | .bl b => some (.bool b)
  | .int i => some (.int i)
  | .str s => some (.str s)
  | .tup l => (toDs l).map .tuple
  | .lst l => (toDs l).map .list
  | .slst l => (toDs l).map .list
  | _ => none
def toDs : List T → Option (List PyData)
  | [] => some []
  | t :: l => match toD t, toDs l with
    | some d, some ds => some (d :: ds)
    | _, _ => none
end
def eqT (t u : T) : Option Bool := match toD t, toD u with
  | some d, some e => if SeqAt.shaped d && SeqAt.shaped e then some (PyData.eqv d e) else none
  | _, _ => none
def inT (t : T) : T → Option Bool
  | .lst l => match toD t, toDs l with
    | some d, some ds => if SeqAt.shaped d && SeqAt.shaped (.list ds) then some (ds.any fun z => PyData.eqv z d) else none
    | _, _ => none
  | .slst l => match toD t, toDs l with
    | some d, some ds => if SeqAt.shaped d && SeqAt.shaped (.list ds) then some (ds.any fun z => PyData.eqv z d) else none
    | _, _ => none
  | .tup l => flatIn t l
  | _ => none
where
  flatOf : T → Option V
    | .non => some .non | .bl b => some (.bl b) | .int i => some (.int i) | .str s => some (.str s) | _ => none
  flatIn (t : T) (l : List T) : Option Bool := match flatOf t, l.mapM flatOf with
    | some v, some vs => if flatV v && vs.all flatV then some (inV v vs) else none
    | _, _ => none
def cmpR : CmpOp → T → T → Option Bool
  | .Eq, t, u => eqT t u
  | .NotEq, t, u => (eqT t u).map (!·)
  | .Lt, .int i, .int j => some (decide (i < j))
  | .LtE, .int i, .int j => some (decide (i ≤ j))
  | .Gt, .int i, .int j => some (decide (j < i))
  | .GtE, .int i, .int j => some (decide (j ≤ i))
  | .Is, t, .non => some (match t with | .non => true | _ => false)
  | .IsNot, t, .non => some (match t with | .non => false | _ => true)
  | .In, t, u => inT t u
  | .NotIn, t, u => (inT t u).map (!·)
  | _, _, _ => none
def truT : T → Option Bool
  | .non => some false
  | .bl b => some b
  | .int i => some (i != 0)
  | .str s => if s.length ≤ SL then some ((s.length : Int) != 0) else none
  | .tup l => some (!l.isEmpty)
  | .lst l => some (!l.isEmpty)
  | .slst l => some (!l.isEmpty)
  | _ => none
def ixR : T → T → Option T
  | .lst l, .int i => atI l i
  | .slst l, .int i => atI l i
  | .tup l, .int i => atI l i
  | .str s, .int i => if s.length ≤ SL then (atI s.cps.toList i).map fun c => .str ⟨#[c]⟩ else none
  | _, _ => none
def cutT {α : Type} (l : List α) (lo hi : Option Int) : List α := (l.drop (HT.sIx l.length 0 lo)).take (HT.sIx l.length l.length hi - HT.sIx l.length 0 lo)
def slR : T → Option Int → Option Int → Option R
  | .lst l, lo, hi => some (.al (cutT l lo hi))
  | .slst l, lo, hi => some (.al (cutT l lo hi))
  | _, _, _ => none
def tyN : T → Option String
  | .non => some "NoneType" | .bl _ => some "bool" | .int _ => some "int" | .str _ => some "str" | .tup _ => some "tuple" | .lst _ => some "list" | .slst _ => some "list" | _ => none
def isiS (a b : String) : Option Bool :=
  if ["NoneType", "bool", "int", "str", "tuple", "list", "dict"].contains a && ["bool", "int", "str", "tuple", "list", "dict"].contains b then
    some (a == b || (a == "bool" && b == "int")) else none
def lenT : T → Option Nat
  | .lst l => some l.length
  | .slst l => some l.length
  | .tup l => some l.length
  | .str s => if s.length ≤ SL then some s.length else none
  | _ => none
def bltR : Bf → List T → Option R
  | .len, [t] => (lenT t).map fun n => .v (.int n)
  | .abs, [.int i] => some (.v (.int (if i < 0 then -i else i)))
  | .int, [.int i] => some (.v (.int i))
  | .int, [.bl b] => some (.v (.int (if b then 1 else 0)))
  | .str, [.int i] => if i.natAbs.log2 < 1920 then some (.v (.str (toString i))) else none
  | .isinstance, [t, .ty n] => match tyN t with
    | some a => (isiS a n).map fun b => .v (.bl b)
    | none => none
  | .max, [.int i, .int j] => some (.v (.int (if j > i then j else i)))
  | .min, [.int i, .int j] => some (.v (.int (if j < i then j else i)))
  | .tuple, [.lst l] => some (.v (.tup l))
  | .tuple, [.slst l] => some (.v (.tup l))
  | .tuple, [.tup l] => some (.v (.tup l))
  | .list, [.lst l] => some (.al l)
  | .list, [.slst l] => some (.al l)
  | .list, [.tup l] => some (.al l)
  | _, _ => none
def itemsT : T → Option (List T)
  | .lst l => some l
  | .slst l => some l
  | .tup l => some l
  | _ => none
def rngT (lo hi : Int) : Option (List T) :=
  if -(2 ^ 62) ≤ lo ∧ lo < 2 ^ 62 ∧ -(2 ^ 62) ≤ hi ∧ hi < 2 ^ 62 then some ((List.range (hi - lo).toNat).map fun (k : Nat) => .int (lo + (k : Int))) else none
mutual
/-- a value put to a target -/
def asgT : Tg → T → Slots → Option Slots
  | .nm i, t, σ => some (σ.set i (some (.v t)))
  | .tp l, .tup ts, σ => asgTs l ts σ
  | .tp _, _, _ => none
def asgTs : List Tg → List T → Slots → Option Slots
  | [], [], σ => some σ
  | g :: l, t :: ts, σ => match asgT g t σ with
    | some σ1 => asgTs l ts σ1
    | none => none
  | _, _, _ => none
end
mutual
def Tg.ixs : Tg → List Nat
  | .nm i => [i]
  | .tp l => ixss l
def ixss : List Tg → List Nat
  | [] => []
  | g :: l => g.ixs ++ ixss l
end
def wipeT (σ : Slots) : List Nat → Slots
  | [] => σ
  | v :: vs => (wipeT σ vs).set v none

structure Ctx where
  call : Nat → List T → Hs → Out R
  gv : Nat → Option T
/-- no exception -/
def noex {α : Type} : Out α → Out α
  | .ok a h => .ok a h
  | _ => .bad
/-- over the items of a comprehension -/
def lcL (f : T → Hs → Out (Option T)) : List T → List T → Hs → Out (List T)
  | [], acc, h => .ok acc h
  | x :: xs, acc, h => (f x h).bind fun o h1 => match o with
    | some y => if acc.length < SL then lcL f xs (acc ++ [y]) h1 else .bad
    | none => lcL f xs acc h1
/-- operations on what expressions give -/
def opL (σ : Slots) (op : Operator) (x y : R) (h : Hs) : Out R := match peek σ x, peek σ y with
  | some t, some u => lift (opR op t u) h
  | _, _ => .bad
def truL (σ : Slots) (x : R) (h : Hs) : Out Bool := match peek σ x with
  | some t => lift (truT t) h
  | none => .bad
def cmpL (σ : Slots) (op : CmpOp) (x y : R) (h : Hs) : Out Bool := match peek σ x, peek σ y with
  | some t, some u => lift (cmpR op t u) h
  | _, _ => .bad
def ixL (σ : Slots) (x y : R) (h : Hs) : Out R := match peek σ x, y with
  | some (.ref n), .v (.int i) => (match h[n]? with
    | some (.lst l) => lift ((atI l i).map .v) h
    | _ => .bad)
  | some t, .v u => lift ((ixR t u).map .v) h
  | _, _ => .bad
mutual
def evE (Γ : Ctx) : E → Slots → Hs → Out R
  | .c k, _, h => .ok (.v k.t) h
  | .var i, σ, h => match σ[i]? with
    | some (some (.v t)) => .ok (.v t) h
    | some (some (.al _)) => .ok (.bw i) h
    | _ => .bad
  | .gl x, _, h => lift ((Γ.gv x).map .v) h
  | .bin op a b, σ, h => (evE Γ a σ h).bind fun x h1 => (evE Γ b σ h1).bind fun y h2 => opL σ op x y h2
  | .neg a, σ, h => (evE Γ a σ h).bind fun x h1 => match x with
    | .v (.int i) => .ok (.v (.int (-i))) h1
    | _ => .bad
  | .not a, σ, h => (evE Γ a σ h).bind fun x h1 => (truL σ x h1).bind fun b h2 => .ok (.v (.bl (!b))) h2
  | .bop op es, σ, h => evB Γ op es σ h
  | .cmp op a b, σ, h => (evE Γ a σ h).bind fun x h1 => (evE Γ b σ h1).bind fun y h2 => (cmpL σ op x y h2).bind fun k h3 => .ok (.v (.bl k)) h3
  | .ch op op' a b c, σ, h => (evE Γ a σ h).bind fun x h1 => (evE Γ b σ h1).bind fun y h2 => (cmpL σ op x y h2).bind fun k h3 =>
      if k then (evE Γ c σ h3).bind fun z h4 => (cmpL σ op' y z h4).bind fun k' h5 => .ok (.v (.bl k')) h5 else .ok (.v (.bl false)) h3
  | .ife c a b, σ, h => (evC Γ c σ h).bind fun k h1 => if k then evE Γ a σ h1 else evE Γ b σ h1
  | .tup es, σ, h => (evEs Γ es σ h).bind fun ts h1 => if ts.length ≤ SL then .ok (.v (.tup ts)) h1 else .bad
  | .lst es, σ, h => (evEs Γ es σ h).bind fun ts h1 => if ts.length ≤ SL then .ok (.al ts) h1 else .bad
  | .ix a b, σ, h => (evE Γ a σ h).bind fun x h1 => (evE Γ b σ h1).bind fun y h2 => ixL σ x y h2
  | .sl a lo hi, σ, h => (evE Γ a σ h).bind fun x h1 => (evO Γ lo σ h1).bind fun l h2 => (evO Γ hi σ h2).bind fun u h3 => match peek σ x with
    | some t => lift (slR t l u) h3
    | none => .bad
  | .call f es, σ, h => (evEs Γ es σ h).bind fun ts h1 => Γ.call f ts h1
  | .blt f es, σ, h => (evPs Γ es σ h).bind fun ts h1 => lift (bltR f ts) h1
  | .lc elt tg it cond, σ, h => (evIt Γ true it σ h).bind fun p h1 =>
      (lcL (fun x h' => noex (match asgT tg x (wipeT σ tg.ixs) with
        | some σ2 => (evC Γ cond σ2 h').bind fun b h2 => if b then (evE Γ elt σ2 h2).bind fun r h3 => lift ((frz r).map some) h3 else .ok none h2
        | none => .bad)) p [] h1).bind fun l h2 => .ok (.al l) h2
/-- and, or as values -/
def evB (Γ : Ctx) (op : BoolOp) : List E → Slots → Hs → Out R
  | [], _, _ => .bad
  | e :: es, σ, h => if es.isEmpty then evE Γ e σ h else (evE Γ e σ h).bind fun x h1 => (truL σ x h1).bind fun k h2 =>
      if k == (op == .Or) then .ok x h2 else evB Γ op es σ h2
/-- a test -/
def evC (Γ : Ctx) : C → Slots → Hs → Out Bool
  | .yes, _, h => .ok true h
  | .t e, σ, h => (evE Γ e σ h).bind fun x h1 => truL σ x h1
  | .not c, σ, h => (evC Γ c σ h).bind fun b h1 => .ok (!b) h1
  | .bop op cs, σ, h => evCs Γ op cs σ h
def evCs (Γ : Ctx) (op : BoolOp) : List C → Slots → Hs → Out Bool
  | [], _, _ => .bad
  | c :: cs, σ, h => if cs.isEmpty then evC Γ c σ h else (evC Γ c σ h).bind fun k h1 =>
      if k == (op == .Or) then .ok k h1 else evCs Γ op cs σ h1
/-- items that are kept -/
def evEs (Γ : Ctx) : List E → Slots → Hs → Out (List T)
  | [], _, h => .ok [] h
  | e :: es, σ, h => (evE Γ e σ h).bind fun x h1 => match frz x with
    | some t => (evEs Γ es σ h1).bind fun ts h2 => .ok (t :: ts) h2
    | none => .bad
/-- items that are looked at -/
def evPs (Γ : Ctx) : List E → Slots → Hs → Out (List T)
  | [], _, h => .ok [] h
  | e :: es, σ, h => (evE Γ e σ h).bind fun x h1 => match peek σ x with
    | some t => (evPs Γ es σ h1).bind fun ts h2 => .ok (t :: ts) h2
    | none => .bad
/-- a part of a slice -/
def evO (Γ : Ctx) : O → Slots → Hs → Out (Option Int)
  | .no, _, h => .ok none h
  | .at e, σ, h => (evE Γ e σ h).bind fun x h1 => match x with
    | .v (.int i) => .ok (some i) h1
    | _ => .bad
/-- what is walked -/
def evIt (Γ : Ctx) (own : Bool) : It → Slots → Hs → Out (List T)
  | .e x, σ, h => (evE Γ x σ h).bind fun r h1 => match (if own then peek σ r else frz r) with
    | some t => lift (itemsT t) h1
    | none => .bad
  | .r1 a, σ, h => (evE Γ a σ h).bind fun r h1 => match r with
    | .v (.int j) => lift (rngT 0 j) h1
    | _ => .bad
  | .r2 a b, σ, h => (evE Γ a σ h).bind fun r h1 => (evE Γ b σ h1).bind fun s h2 => match r, s with
    | .v (.int i), .v (.int j) => lift (rngT i j) h2
    | _, _ => .bad
end

inductive Fl where
  | nx | brk | ct | ret (r : R)
/-- how a statement ends -/
inductive SO where
  | ok (f : Fl) (σ : Slots) (h : Hs) | ex (x : Xn) (σ : Slots) (h : Hs) | bad
/-- behind an expression -/
def sb {α : Type} (σ : Slots) : Out α → (α → Hs → SO) → SO
  | .ok a h, k => k a h
  | .ex x h, _ => .ex x σ h
  | .bad, _ => .bad
@[simp] theorem sb_ok {α : Type} (σ : Slots) (a : α) (h : Hs) (k : α → Hs → SO) : sb σ (.ok a h) k = k a h := (rfl)
@[simp] theorem sb_ex {α : Type} (σ : Slots) (x : Xn) (h : Hs) (k : α → Hs → SO) : sb σ (.ex x h : Out α) k = .ex x σ h := (rfl)
@[simp] theorem sb_bad {α : Type} (σ : Slots) (k : α → Hs → SO) : sb σ (.bad : Out α) k = .bad := (rfl)
/-- behind a statement that goes on -/
def SO.seq : SO → (Slots → Hs → SO) → SO
  | .ok .nx σ h, k => k σ h
  | o, _ => o
@[simp] theorem SO.seq_nx (σ : Slots) (h : Hs) (k : Slots → Hs → SO) : (SO.ok .nx σ h).seq k = k σ h := (rfl)
@[simp] theorem SO.seq_ret (r : R) (σ : Slots) (h : Hs) (k : Slots → Hs → SO) : (SO.ok (.ret r) σ h).seq k = .ok (.ret r) σ h := (rfl)
@[simp] theorem SO.seq_brk (σ : Slots) (h : Hs) (k : Slots → Hs → SO) : (SO.ok .brk σ h).seq k = .ok .brk σ h := (rfl)
@[simp] theorem SO.seq_ct (σ : Slots) (h : Hs) (k : Slots → Hs → SO) : (SO.ok .ct σ h).seq k = .ok .ct σ h := (rfl)
@[simp] theorem SO.seq_ex (x : Xn) (σ : Slots) (h : Hs) (k : Slots → Hs → SO) : (SO.ex x σ h).seq k = .ex x σ h := (rfl)
@[simp] theorem SO.seq_bad (k : Slots → Hs → SO) : SO.bad.seq k = .bad := (rfl)
/-- behind a loop's turn -/
def SO.turn : SO → (Slots → Hs → SO) → SO
  | .ok .nx σ h, k => k σ h
  | .ok .ct σ h, k => k σ h
  | .ok .brk σ h, _ => .ok .nx σ h
  | o, _ => o
@[simp] theorem SO.turn_nx (σ : Slots) (h : Hs) (k : Slots → Hs → SO) : (SO.ok .nx σ h).turn k = k σ h := (rfl)
@[simp] theorem SO.turn_ret (r : R) (σ : Slots) (h : Hs) (k : Slots → Hs → SO) : (SO.ok (.ret r) σ h).turn k = .ok (.ret r) σ h := (rfl)
@[simp] theorem SO.turn_brk (σ : Slots) (h : Hs) (k : Slots → Hs → SO) : (SO.ok .brk σ h).turn k = .ok .nx σ h := (rfl)
@[simp] theorem SO.turn_ct (σ : Slots) (h : Hs) (k : Slots → Hs → SO) : (SO.ok .ct σ h).turn k = k σ h := (rfl)
@[simp] theorem SO.turn_ex (x : Xn) (σ : Slots) (h : Hs) (k : Slots → Hs → SO) : (SO.ex x σ h).turn k = .ex x σ h := (rfl)
@[simp] theorem SO.turn_bad (k : Slots → Hs → SO) : SO.bad.turn k = .bad := (rfl)
def forL (body : T → Slots → Hs → SO) : List T → Slots → Hs → SO
  | [], σ, h => .ok .nx σ h
  | x :: xs, σ, h => (body x σ h).turn (forL body xs)
def whlL (test : Slots → Hs → Out Bool) (body : Slots → Hs → SO) : Nat → Slots → Hs → SO
  | 0, _, _ => .bad
  | n + 1, σ, h => sb σ (test σ h) fun b h1 => if b then (body σ h1).turn (whlL test body n) else .ok .nx σ h1
abbrev whlMost : Nat := 1000000000
def putR : R → Option Sl
  | .v t => some (.v t)
  | .al l => some (.al l)
  | .bw _ => none
/-- a store into a list object -/
def setL (r : R) (x y : R) (h : Hs) : Option Hs := match frz r, x, y with
  | some t, .v (.ref n), .v (.int k) => (match h[n]? with
    | some (.lst l) => (ixN l.length k).map fun j => h.set n (.lst (l.set j t))
    | _ => none)
  | _, _, _ => none
def liftS (o : Option Slots) (h : Hs) : SO := match o with
  | some σ => .ok .nx σ h
  | none => .bad
@[simp] theorem liftS_some (σ : Slots) (h : Hs) : liftS (some σ) h = .ok .nx σ h := (rfl)
@[simp] theorem liftS_none (h : Hs) : liftS none h = .bad := (rfl)
def retS (σ : Slots) (r : R) (h : Hs) : SO := match r with
  | .bw _ => .bad
  | r => .ok (.ret r) σ h
def appS (σ : Slots) (i : Nat) (r : R) (h : Hs) : SO := match frz r, σ[i]? with
  | some t, some (some (.al l)) => if l.length < SL then .ok .nx (σ.set i (some (.al (l ++ [t])))) h else .bad
  | some t, some (some (.v (.ref n))) => (match h[n]? with
    | some (.lst l) => if l.length < SL then .ok .nx σ (h.set n (.lst (l ++ [t]))) else .bad
    | _ => .bad)
  | _, _ => .bad
def appOk (h : Hs) : Option (Option Sl) → Bool
  | some (some (.al _)) => true
  | some (some (.v (.ref n))) => (match h[n]? with
    | some (.lst _) => true
    | _ => false)
  | _ => false
mutual
def evS (Γ : Ctx) : S → Slots → Hs → SO
  | .asg i e, σ, h => sb σ (evE Γ e σ h) fun r h1 => liftS ((putR r).map fun s => σ.set i (some s)) h1
  | .asgT tg e, σ, h => sb σ (evE Γ e σ h) fun r h1 => liftS ((frz r).bind fun t => asgT tg t σ) h1
  | .setIx o i e, σ, h => sb σ (evE Γ e σ h) fun r h1 => sb σ (evE Γ o σ h1) fun x h2 => sb σ (evE Γ i σ h2) fun y h3 => match setL r x y h3 with
    | some h4 => .ok .nx σ h4
    | none => .bad
  | .expr e, σ, h => sb σ (evE Γ e σ h) fun _ h1 => .ok .nx σ h1
  | .ret e, σ, h => sb σ (evE Γ e σ h) fun r h1 => retS σ r h1
  | .retS i, σ, h => match σ[i]? with
    | some (some (.al l)) => .ok (.ret (.al l)) (σ.set i none) h
    | _ => .bad
  | .retN, σ, h => .ok (.ret (.v .non)) σ h
  | .ife c a b, σ, h => sb σ (evC Γ c σ h) fun k h1 => if k then evSs Γ a σ h1 else evSs Γ b σ h1
  | .for tg it body, σ, h => sb σ (evIt Γ false it σ h) fun p h1 => forL (fun x σ' h' => (liftS (asgT tg x σ') h').seq (evSs Γ body)) p σ h1
  | .whl c body, σ, h => whlL (evC Γ c) (evSs Γ body) whlMost σ h
  | .brk, σ, h => .ok .brk σ h
  | .cnt, σ, h => .ok .ct σ h
  | .pass, σ, h => .ok .nx σ h
  | .app i e, σ, h => if appOk h σ[i]? then sb σ (evE Γ e σ h) fun r h1 => appS σ i r h1 else .bad
  | .par2 i j a b, σ, h => sb σ (evE Γ a σ h) fun r h1 => sb σ (evE Γ b σ h1) fun s h2 => liftS ((putR r).bind fun x => (putR s).map fun y => (σ.set i (some x)).set j (some y)) h2
  | .par3 i j l a b c, σ, h => sb σ (evE Γ a σ h) fun r h1 => sb σ (evE Γ b σ h1) fun s h2 => sb σ (evE Γ c σ h2) fun t h3 =>
      liftS ((putR r).bind fun x => (putR s).bind fun y => (putR t).map fun z => ((σ.set i (some x)).set j (some y)).set l (some z)) h3
  | .fz i, σ, h => match σ[i]? with
    | some (some (.al l)) => .ok .nx (σ.set i (some (.v (.lst l)))) h
    | _ => .bad
  | .pr i, σ, h => match σ[i]? with
    | some (some (.al l)) => .ok .nx (σ.set i (some (.v (.ref h.length)))) (h ++ [.lst l])
    | _ => .bad
def evSs (Γ : Ctx) : List S → Slots → Hs → SO
  | [], σ, h => .ok .nx σ h
  | s :: ss, σ, h => (evS Γ s σ h).seq (evSs Γ ss)
end
/-- a def: how many parameters, how many names, its body -/
structure FD where
  ps : Nat
  n : Nat
  body : List S
def startT (n : Nat) (ts : List T) : Slots := ts.map (fun t => some (.v t)) ++ List.replicate (n - ts.length) none
def SO.out : SO → Out R
  | .ok (.ret r) _ h => .ok r h
  | .ok .nx _ h => .ok (.v .non) h
  | .ex x _ h => .ex x h
  | _ => .bad
def runD (Γ : Ctx) (d : FD) (ts : List T) (h : Hs) : Out R :=
  if ts.length = d.ps then (evSs Γ d.body (startT d.n ts) h).out else .bad
/-- the calls, by levels -/
def callK (P : List FD) (gv : Nat → Option T) : Nat → Nat → List T → Hs → Out R
  | 0, _, _, _ => .bad
  | k + 1, f, ts, h => match P[f]? with
    | some d => runD ⟨callK P gv k, gv⟩ d ts h
    | none => .bad
end VY
namespace VY
open PySem PySem.Spec
open PyProof.Rows hiding St
open L2

def StL (K : PySem.W.Frag) (a : Addr) (xs : List V) : Prop :=
  ∃ (o : Obj) (its : Array Value) (n : Nat), K.lookup a = some o ∧ o.cls = .type "list" ∧ o.dict = none ∧ o.data = .seq its n ∧ its.size ≤ sizeLine ∧ Vals xs its.toList
def StT (K : PySem.W.Frag) (a : Addr) (xs : List V) : Prop :=
  ∃ (o : Obj) (its : Array Value) (n : Nat), K.lookup a = some o ∧ o.cls = .type "tuple" ∧ o.data = .seq its n ∧ its.size ≤ sizeLine ∧ Vals xs its.toList
/-- the address of the heap's n-th object is live -/
def Live (ρ : List Addr) (h : Hs) (a : Addr) : Prop := ∃ (n : Nat) (o : HOb), ρ[n]? = some a ∧ h[n]? = some o ∧ o ≠ HOb.dead
section
variable (K : PySem.W.Frag) (mg : Str → Option Value)
mutual
/-- v stands for t: ρ the objects' addresses, I the addresses that never change -/
def Rep (ρ : List Addr) (I : Addr → Prop) (H : Hp) : V → T → Prop
  | v, .non => v = .non
  | v, .bl b => v = .bl b
  | v, .int i => v = .int i
  | v, .str s => v = .str s
  | v, .ty n => v = .ty n
  | v, .gl x => ∃ a, v = .ref a ∧ mg x = some (.ref a)
  | v, .ref n => ∃ a, v = .ref a ∧ ρ[n]? = some a
  | v, .tup l => ∃ a vs, v = .ref a ∧ ((I a ∧ Rd H a (.tup vs)) ∨ StT K a vs) ∧ Reps ρ I H vs l
  | v, .lst l => ∃ a vs, v = .ref a ∧ I a ∧ H a = some (.lst vs) ∧ Reps ρ I H vs l
  | v, .slst l => ∃ a vs, v = .ref a ∧ ((I a ∧ Rd H a (.lst vs)) ∨ StL K a vs) ∧ Reps ρ I H vs l
  | v, .dct l => ∃ a vs, v = .ref a ∧ I a ∧ H a = some (.dK vs) ∧ RepD ρ I H vs l
def Reps (ρ : List Addr) (I : Addr → Prop) (H : Hp) : List V → List T → Prop
  | [], [] => True
  | v :: vs, t :: l => Rep ρ I H v t ∧ Reps ρ I H vs l
  | _, _ => False
def RepD (ρ : List Addr) (I : Addr → Prop) (H : Hp) : List (Key × V) → List (Key × T) → Prop
  | [], [] => True
  | v :: vs, (k, t) :: l => v.1 = k ∧ Rep ρ I H v.2 t ∧ RepD ρ I H vs l
  | _, _ => False
end
def RepO (ρ : List Addr) (I : Addr → Prop) (H : Hp) (a : Addr) : HOb → Prop
  | .lst l => ∃ vs, H a = some (.lst vs) ∧ Reps K mg ρ I H vs l
  | .dct l => ∃ vs, H a = some (.dK vs) ∧ RepD K mg ρ I H vs l
  | .ins _ _ => False
  | .dead => True
/-- the small heap in the hand layer's -/
structure HR (ρ : List Addr) (I : Addr → Prop) (h : Hs) (H : Hp) : Prop where
  len : ρ.length = h.length
  inj : ∀ (n m : Nat) (a : Addr) (o o' : HOb), ρ[n]? = some a → ρ[m]? = some a → h[n]? = some o → h[m]? = some o' → o ≠ .dead → o' ≠ .dead → n = m
  dis : ∀ a, Live ρ h a → ¬ I a
  idom : ∀ a, I a → (H a).isSome
  obj : ∀ (n : Nat) (o : HOb) (a : Addr), h[n]? = some o → ρ[n]? = some a → RepO K mg ρ I H a o
end
/-- what an expression may do to the heap -/
structure Ext (ρ : List Addr) (I : Addr → Prop) (h : Hs) (H : Hp) (ρ' : List Addr) (I' : Addr → Prop) (h' : Hs) (H' : Hp) : Prop where
  pre : ∀ (n : Nat) (a : Addr), ρ[n]? = some a → ρ'[n]? = some a
  sub : ∀ a, I a → I' a
  keep : ∀ a, (H a).isSome → ¬ Live ρ h a → H' a = H a
  dom : ∀ a, (H a).isSome → (H' a).isSome
  inew : ∀ a, I' a → I a ∨ H a = none ∨ Live ρ h a
  lnew : ∀ a, Live ρ' h' a → Live ρ h a ∨ H a = none
theorem isSome_of {α : Type} {o : Option α} {x : α} (h : o = some x) : o.isSome := by rw [h]; rfl
theorem not_none {α : Type} {o : Option α} (h : o.isSome) (e : o = none) : False := by rw [e] at h; cases h
section
variable {K : PySem.W.Frag} {mg : Str → Option Value} {ρ ρ' ρ'' : List Addr} {I I' I'' : Addr → Prop} {h h' h'' : Hs} {H H' H'' : Hp}
theorem Ext.refl : Ext ρ I h H ρ I h H := ⟨fun _ _ e => e, fun _ e => e, fun _ _ _ => rfl, fun _ e => e, fun _ e => .inl e, fun _ e => .inl e⟩
theorem Ext.trans (a : Ext ρ I h H ρ' I' h' H') (b : Ext ρ' I' h' H' ρ'' I'' h'' H'') : Ext ρ I h H ρ'' I'' h'' H'' where
  pre := fun n x e => b.pre n x (a.pre n x e)
  sub := fun x e => b.sub x (a.sub x e)
  keep := fun x d l => by
    have l' : ¬ Live ρ' h' x := fun z => (a.lnew x z).elim l (not_none d)
    rw [b.keep x (a.dom x d) l', a.keep x d l]
  dom := fun x d => b.dom x (a.dom x d)
  inew := fun x i => by
    rcases b.inew x i with z | z | z
    · exact a.inew x z
    · by_cases d : (H x).isSome
      · exact (not_none (a.dom x d) z).elim
      · exact .inr (.inl (by cases e : H x with | none => rfl | some _ => rw [e] at d; exact (d rfl).elim))
    · rcases a.lnew x z with q | q
      · exact .inr (.inr q)
      · exact .inr (.inl q)
  lnew := fun x l => by
    rcases b.lnew x l with z | z
    · exact a.lnew x z
    · by_cases d : (H x).isSome
      · exact (not_none (a.dom x d) z).elim
      · exact .inr (by cases e : H x with | none => rfl | some _ => rw [e] at d; exact (d rfl).elim)
theorem Ext.ikeep (x : Ext ρ I h H ρ' I' h' H') (r : HR K mg ρ I h H) {a : Addr} (i : I a) : H' a = H a := x.keep a (r.idom a i) fun l => r.dis a l i
/-- what never changes is kept -/
structure Kp (ρ : List Addr) (I : Addr → Prop) (H : Hp) (ρ' : List Addr) (I' : Addr → Prop) (H' : Hp) : Prop where
  pre : ∀ (n : Nat) (a : Addr), ρ[n]? = some a → ρ'[n]? = some a
  sub : ∀ a, I a → I' a
  keep : ∀ a, I a → H' a = H a
theorem Ext.kp (x : Ext ρ I h H ρ' I' h' H') (r : HR K mg ρ I h H) : Kp ρ I H ρ' I' H' := ⟨x.pre, x.sub, fun _ i => x.ikeep r i⟩
theorem Rd.keep {a : Addr} {u : HO} (e : H' a = H a) (r : Rd H a u) : Rd H' a u := by
  rcases r with r | ⟨o, r⟩
  · exact .inl (e.trans r)
  · exact .inr ⟨o, e.trans r⟩
mutual
theorem Rep.mono (k : Kp ρ I H ρ' I' H') : ∀ {v : V} {t : T}, Rep K mg ρ I H v t → Rep K mg ρ' I' H' v t
  | _, .non, e => e
  | _, .bl _, e => e
  | _, .int _, e => e
  | _, .str _, e => e
  | _, .ty _, e => e
  | _, .gl _, e => e
  | _, .ref _, ⟨a, e, r⟩ => ⟨a, e, k.pre _ _ r⟩
  | _, .tup l, ⟨a, vs, e, r, q⟩ => ⟨a, vs, e, r.imp (fun z => ⟨k.sub a z.1, Rd.keep (k.keep a z.1) z.2⟩) id, Reps.mono k q⟩
  | _, .lst l, ⟨a, vs, e, i, r, q⟩ => ⟨a, vs, e, k.sub a i, (k.keep a i).trans r, Reps.mono k q⟩
  | _, .slst l, ⟨a, vs, e, r, q⟩ => ⟨a, vs, e, r.imp (fun z => ⟨k.sub a z.1, Rd.keep (k.keep a z.1) z.2⟩) id, Reps.mono k q⟩
  | _, .dct l, ⟨a, vs, e, i, r, q⟩ => ⟨a, vs, e, k.sub a i, (k.keep a i).trans r, RepD.mono k q⟩
theorem Reps.mono (k : Kp ρ I H ρ' I' H') : ∀ {vs : List V} {l : List T}, Reps K mg ρ I H vs l → Reps K mg ρ' I' H' vs l
  | [], [], _ => trivial
  | _ :: _, _ :: _, ⟨a, b⟩ => ⟨Rep.mono k a, Reps.mono k b⟩
theorem RepD.mono (k : Kp ρ I H ρ' I' H') : ∀ {vs : List (Key × V)} {l : List (Key × T)}, RepD K mg ρ I H vs l → RepD K mg ρ' I' H' vs l
  | [], [], _ => trivial
  | _ :: _, (_, _) :: _, ⟨e, a, b⟩ => ⟨e, Rep.mono k a, RepD.mono k b⟩
end
theorem Reps.length : ∀ {vs : List V} {l : List T}, Reps K mg ρ I H vs l → vs.length = l.length
  | [], [], _ => rfl
  | _ :: _, _ :: _, ⟨_, b⟩ => congrArg (· + 1) (Reps.length b)
theorem Reps.append : ∀ {vs ws : List V} {l m : List T}, Reps K mg ρ I H vs l → Reps K mg ρ I H ws m → Reps K mg ρ I H (vs ++ ws) (l ++ m)
  | [], _, [], _, _, b => b
  | _ :: _, _, _ :: _, _, ⟨x, a⟩, b => ⟨x, Reps.append a b⟩
theorem Reps.get : ∀ {vs : List V} {l : List T} {i : Nat} {t : T}, Reps K mg ρ I H vs l → l[i]? = some t → ∃ v, vs[i]? = some v ∧ Rep K mg ρ I H v t
  | [], [], _, _, _, e => by simp at e
  | v :: _, _ :: _, 0, _, ⟨x, _⟩, e => by simp at e; subst e; exact ⟨v, rfl, x⟩
  | _ :: _, _ :: _, i + 1, t, ⟨_, b⟩, e => by
    obtain ⟨v, q, r⟩ := Reps.get (i := i) (t := t) b (by simpa using e)
    exact ⟨v, by simpa using q, r⟩
theorem Reps.getV : ∀ {vs : List V} {l : List T} {i : Nat} {v : V}, Reps K mg ρ I H vs l → vs[i]? = some v → ∃ t, l[i]? = some t ∧ Rep K mg ρ I H v t
  | [], [], _, _, _, e => by simp at e
  | _ :: _, t :: _, 0, _, ⟨x, _⟩, e => by simp at e; subst e; exact ⟨t, rfl, x⟩
  | _ :: _, _ :: _, i + 1, v, ⟨_, b⟩, e => by
    obtain ⟨t, q, r⟩ := Reps.getV (i := i) (v := v) b (by simpa using e)
    exact ⟨t, by simpa using q, r⟩
theorem Reps.set {v : V} {t : T} (x : Rep K mg ρ I H v t) : ∀ {vs : List V} {l : List T} (i : Nat), Reps K mg ρ I H vs l → Reps K mg ρ I H (vs.set i v) (l.set i t)
  | [], [], _, _ => trivial
  | _ :: _, _ :: _, 0, ⟨_, b⟩ => ⟨x, b⟩
  | _ :: _, _ :: _, i + 1, ⟨y, b⟩ => ⟨y, Reps.set x i b⟩
theorem Reps.take : ∀ {vs : List V} {l : List T} (n : Nat), Reps K mg ρ I H vs l → Reps K mg ρ I H (vs.take n) (l.take n)
  | _, _, 0, _ => by simp only [List.take_zero]; exact trivial
  | [], [], _ + 1, _ => trivial
  | _ :: _, _ :: _, n + 1, ⟨x, b⟩ => ⟨x, Reps.take n b⟩
theorem Reps.drop : ∀ {vs : List V} {l : List T} (n : Nat), Reps K mg ρ I H vs l → Reps K mg ρ I H (vs.drop n) (l.drop n)
  | _, _, 0, q => q
  | [], [], _ + 1, _ => trivial
  | _ :: _, _ :: _, n + 1, ⟨_, b⟩ => Reps.drop n b
theorem Reps.cut {vs : List V} {l : List T} (q : Reps K mg ρ I H vs l) (lo hi : Option Int) : Reps K mg ρ I H (cutV vs lo hi) (cutT l lo hi) := by
  unfold cutV cutT
  rw [q.length]
  exact Reps.take _ (Reps.drop _ q)
theorem Reps.rep {vs : List V} {l : List T} (q : Reps K mg ρ I H vs l) : ∀ k : Nat, Reps K mg ρ I H (List.replicate k vs).flatten (List.replicate k l).flatten
  | 0 => trivial
  | k + 1 => by
    rw [List.replicate_succ, List.replicate_succ, List.flatten_cons, List.flatten_cons]
    exact Reps.append q (Reps.rep q k)
theorem Reps.at {vs : List V} {l : List T} {i : Int} {t : T} (q : Reps K mg ρ I H vs l) (e : atI l i = some t) : ∃ v, atI vs i = some v ∧ Rep K mg ρ I H v t := by
  unfold atI at e ⊢
  rw [q.length]
  cases z : ixN l.length i with
  | none => rw [z] at e; cases e
  | some j => rw [z] at e; exact Reps.get q e

/-- the slots -/
structure SR (K : PySem.W.Frag) (mg : Str → Option Value) (ρ : List Addr) (I : Addr → Prop) (h : Hs) (H : Hp) (σT : Slots) (σ : St) : Prop where
  len : σT.length = σ.length
  vs : ∀ (i : Nat) (t : T), σT[i]? = some (some (.v t)) → ∃ v, σ[i]? = some (some v) ∧ Rep K mg ρ I H v t
  als : ∀ (i : Nat) (l : List T), σT[i]? = some (some (.al l)) → ∃ a vs, σ[i]? = some (some (.ref a)) ∧ H a = some (.lst vs) ∧ ¬ I a ∧ ¬ Live ρ h a ∧ Reps K mg ρ I H vs l
  adj : ∀ (i j : Nat) (l m : List T) (a : Addr), σT[i]? = some (some (.al l)) → σT[j]? = some (some (.al m)) → σ[i]? = some (some (.ref a)) → σ[j]? = some (some (.ref a)) → i = j
variable {σT : Slots} {σ : St}
theorem live_dec (ρ : List Addr) (h : Hs) (a : Addr) : Live ρ h a ∨ ¬ Live ρ h a := Classical.em _
/-- the slots behind an expression -/
theorem SR.ext (s : SR K mg ρ I h H σT σ) (r : HR K mg ρ I h H) (x : Ext ρ I h H ρ' I' h' H') : SR K mg ρ' I' h' H' σT σ where
  len := s.len
  vs := fun i t e => let ⟨v, q, p⟩ := s.vs i t e; ⟨v, q, p.mono (x.kp r)⟩
  als := fun i l e => by
    obtain ⟨a, vs, q, p, ni, nl, w⟩ := s.als i l e
    refine ⟨a, vs, q, (x.keep a (isSome_of p) nl).trans p, fun z => ?_, fun z => ?_, w.mono (x.kp r)⟩
    · rcases x.inew a z with u | u | u
      · exact ni u
      · rw [u] at p; cases p
      · exact nl u
    · rcases x.lnew a z with u | u
      · exact nl u
      · rw [u] at p; cases p
  adj := s.adj
/-- what an expression gives: H0 the heap at its start -/
def RO (K : PySem.W.Frag) (mg : Str → Option Value) (ρ : List Addr) (I : Addr → Prop) (h : Hs) (H : Hp) (H0 : Hp) (σT : Slots) (σ : St) (v : V) : R → Prop
  | .v t => Rep K mg ρ I H v t
  | .al l => ∃ a vs, v = .ref a ∧ H0 a = none ∧ H a = some (.lst vs) ∧ ¬ I a ∧ ¬ Live ρ h a ∧ Reps K mg ρ I H vs l
  | .bw i => σ[i]? = some (some v) ∧ ∃ l, σT[i]? = some (some (.al l))
theorem RO.ext {H0 : Hp} {v : V} {r : R} (o : RO K mg ρ I h H H0 σT σ v r) (hr : HR K mg ρ I h H) (x : Ext ρ I h H ρ' I' h' H') : RO K mg ρ' I' h' H' H0 σT σ v r := by
  cases r with
  | v t => exact Rep.mono (x.kp hr) o
  | al l =>
    obtain ⟨a, vs, e, n, p, ni, nl, w⟩ := o
    refine ⟨a, vs, e, n, (x.keep a (isSome_of p) nl).trans p, fun z => ?_, fun z => ?_, w.mono (x.kp hr)⟩
    · rcases x.inew a z with u | u | u
      · exact ni u
      · rw [u] at p; cases p
      · exact nl u
    · rcases x.lnew a z with u | u
      · exact nl u
      · rw [u] at p; cases p
  | bw i => exact o
/-- started earlier -/
theorem RO.back {H0 H1 : Hp} {v : V} {r : R} (o : RO K mg ρ I h H H1 σT σ v r) (d : ∀ a, (H0 a).isSome → (H1 a).isSome) : RO K mg ρ I h H H0 σT σ v r := by
  cases r with
  | v t => exact o
  | al l =>
    obtain ⟨a, vs, e, n, q⟩ := o
    refine ⟨a, vs, e, ?_, q⟩
    cases z : H0 a with
    | none => rfl
    | some _ => exact (not_none (d a (isSome_of z)) n).elim
  | bw i => exact o
/-- looked at -/
def Pk (K : PySem.W.Frag) (mg : Str → Option Value) (ρ : List Addr) (I : Addr → Prop) (H : Hp) (v : V) : T → Prop
  | .lst l => ∃ a vs, v = .ref a ∧ H a = some (.lst vs) ∧ Reps K mg ρ I H vs l
  | t => Rep K mg ρ I H v t
theorem Pk.of {v : V} : ∀ {t : T}, Rep K mg ρ I H v t → Pk K mg ρ I H v t
  | .lst _, ⟨a, vs, e, _, r, q⟩ => ⟨a, vs, e, r, q⟩
  | .non, e => e
  | .bl _, e => e
  | .int _, e => e
  | .str _, e => e
  | .ty _, e => e
  | .gl _, e => e
  | .ref _, e => e
  | .tup _, e => e
  | .slst _, e => e
  | .dct _, e => e
theorem RO.pk {H0 : Hp} {v : V} {r : R} {t : T} (o : RO K mg ρ I h H H0 σT σ v r) (s : SR K mg ρ I h H σT σ) (e : peek σT r = some t) : Pk K mg ρ I H v t := by
  cases r with
  | v u => cases e; exact Pk.of o
  | al l => cases e; obtain ⟨a, vs, e, _, p, _, _, w⟩ := o; exact ⟨a, vs, e, p, w⟩
  | bw i =>
    obtain ⟨q, l, z⟩ := o
    simp only [peek, z] at e
    cases e
    obtain ⟨a, vs, q', p, _, _, w⟩ := s.als i l z
    rw [q] at q'
    cases q'
    exact ⟨a, vs, rfl, p, w⟩
end
end VY
namespace VY
open PySem PySem.Spec
open PyProof.Rows hiding St
open L2

/-- an exception's class and own dict -/
def XR (K : PySem.W.Frag) (mg : Str → Option Value) (ρ : List Addr) (I : Addr → Prop) (H : Hp) (cls : Value) (d : Option Addr) : Xn → Prop
  | .blt n => cls = .type n
  | .own c fs => ∃ C, mg c = some (.ref C) ∧ cls = .ref C ∧ (fs = [] ∨ ∃ dd vs, d = some dd ∧ H dd = some (.xd vs) ∧ vs.map (·.1) = fs.map (·.1) ∧ Reps K mg ρ I H (vs.map (·.2)) (fs.map (·.2)))
/-- behind a part: its end, or its exception -/
def Nx (K : PySem.W.Frag) (mg : Str → Option Value) (W : WX) (σ : St) (ρ : List Addr) (I : Addr → Prop) (h : Hs) (H : Hp) {α : Type} (o : Out α) (k : α → Hs → List Addr → (Addr → Prop) → Hp → Prop) : Prop :=
  match o with
  | .ok a h' => ∀ ρ' I' H', Ext ρ I h H ρ' I' h' H' → HR K mg ρ' I' h' H' → k a h' ρ' I' H'
  | .ex x h' => ∀ cls d ρ' I' H', Ext ρ I h H ρ' I' h' H' → HR K mg ρ' I' h' H' → XR K mg ρ' I' H' cls d x → W cls d σ H'
  | .bad => False
section
variable {K : PySem.W.Frag} {mg : Str → Option Value} {W : WX} {σ : St} {σT : Slots} {ρ ρ' : List Addr} {I I' : Addr → Prop} {h h' : Hs} {H H' : Hp} {α β : Type}
theorem Nx.bind {o : Out α} {g : α → Hs → Out β} {k : β → Hs → List Addr → (Addr → Prop) → Hp → Prop} (n : Nx K mg W σ ρ I h H (o.bind g) k) :
    Nx K mg W σ ρ I h H o fun a h' ρ' I' H' => Nx K mg W σ ρ' I' h' H' (g a h') k := by
  cases o with
  | ok a h1 =>
    intro ρ1 I1 H1 x1 r1
    have n' : Nx K mg W σ ρ I h H (g a h1) k := n
    cases e : g a h1 with
    | ok b h2 => rw [e] at n'; exact fun ρ2 I2 H2 x2 r2 => n' ρ2 I2 H2 (x1.trans x2) r2
    | ex x h2 => rw [e] at n'; exact fun cls d ρ2 I2 H2 x2 r2 => n' cls d ρ2 I2 H2 (x1.trans x2) r2
    | bad => rw [e] at n'; exact n'
  | ex x h1 => exact n
  | bad => exact n
theorem Nx.imp {o : Out α} {k k' : α → Hs → List Addr → (Addr → Prop) → Hp → Prop} (n : Nx K mg W σ ρ I h H o k)
    (f : ∀ a h' ρ' I' H', Ext ρ I h H ρ' I' h' H' → HR K mg ρ' I' h' H' → k a h' ρ' I' H' → k' a h' ρ' I' H') : Nx K mg W σ ρ I h H o k' := by
  cases o with
  | ok a h1 => exact fun ρ1 I1 H1 x1 r1 => f a h1 ρ1 I1 H1 x1 r1 (n ρ1 I1 H1 x1 r1)
  | ex x h1 => exact n
  | bad => exact n
/-- .. where the end may be taken at another state, too -/
theorem Nx.imp' {o : Out α} {k k' : α → Hs → List Addr → (Addr → Prop) → Hp → Prop} (n : Nx K mg W σ ρ I h H o k)
    (f : ∀ a h' ρ' I' H', Ext ρ I h H ρ' I' h' H' → HR K mg ρ' I' h' H' → (∀ ρ'' I'' H'', Ext ρ I h H ρ'' I'' h' H'' → HR K mg ρ'' I'' h' H'' → k a h' ρ'' I'' H'') → k' a h' ρ' I' H') : Nx K mg W σ ρ I h H o k' := by
  cases o with
  | ok a h1 => exact fun ρ1 I1 H1 x1 r1 => f a h1 ρ1 I1 H1 x1 r1 fun ρ2 I2 H2 x2 r2 => n ρ2 I2 H2 x2 r2
  | ex x h1 => exact n
  | bad => exact n
/-- from another start with the same small heap -/
theorem Nx.from {o : Out α} {k : α → Hs → List Addr → (Addr → Prop) → Hp → Prop} (n : Nx K mg W σ ρ I h H o k) (x : Ext ρ I h H ρ' I' h' H') : Nx K mg W σ ρ' I' h' H' o k := by
  cases o with
  | ok a h1 => exact fun ρ1 I1 H1 x1 r1 => n ρ1 I1 H1 (x.trans x1) r1
  | ex y h1 => exact fun cls d ρ1 I1 H1 x1 r1 => n cls d ρ1 I1 H1 (x.trans x1) r1
  | bad => exact n
theorem Nx.lift {o : Option α} {k : α → Hs → List Addr → (Addr → Prop) → Hp → Prop} (n : Nx K mg W σ ρ I h H (lift o h) k) : ∃ a, o = some a ∧ ∀ ρ' I' H', Ext ρ I h H ρ' I' h H' → HR K mg ρ' I' h H' → k a h ρ' I' H' := by
  cases o with
  | some a => exact ⟨a, rfl, n⟩
  | none => exact n.elim
theorem Nx.ok {a : α} {k : α → Hs → List Addr → (Addr → Prop) → Hp → Prop} (n : Nx K mg W σ ρ I h H (.ok a h') k) : ∀ ρ' I' H', Ext ρ I h H ρ' I' h' H' → HR K mg ρ' I' h' H' → k a h' ρ' I' H' := n

/-- an expression -/
def tD (K : PySem.W.Frag) (mg : Str → Option Value) (W : WX) (f : Slots → Hs → Out R) : TE := fun σ H Q => ∃ ρ I σT h, HR K mg ρ I h H ∧ SR K mg ρ I h H σT σ ∧
  Nx K mg W σ ρ I h H (f σT h) fun r h' ρ' I' H' => ∀ v, RO K mg ρ' I' h' H' H σT σ v r → Q v H'
/-- a test -/
def tB (K : PySem.W.Frag) (mg : Str → Option Value) (W : WX) (f : Slots → Hs → Out Bool) : TT := fun σ H Q => ∃ ρ I σT h, HR K mg ρ I h H ∧ SR K mg ρ I h H σT σ ∧
  Nx K mg W σ ρ I h H (f σT h) fun b h' ρ' I' H' => Q b H'
/-- items that are kept, items that are looked at -/
def tEs (K : PySem.W.Frag) (mg : Str → Option Value) (W : WX) (f : Slots → Hs → Out (List T)) : TA := fun σ H Q => ∃ ρ I σT h, HR K mg ρ I h H ∧ SR K mg ρ I h H σT σ ∧
  Nx K mg W σ ρ I h H (f σT h) fun ts h' ρ' I' H' => ∀ vs, Reps K mg ρ' I' H' vs ts → Q vs H'
def Pks (K : PySem.W.Frag) (mg : Str → Option Value) (ρ : List Addr) (I : Addr → Prop) (H : Hp) : List V → List T → Prop
  | [], [] => True
  | v :: vs, t :: ts => Pk K mg ρ I H v t ∧ Pks K mg ρ I H vs ts
  | _, _ => False
def tPs (K : PySem.W.Frag) (mg : Str → Option Value) (W : WX) (f : Slots → Hs → Out (List T)) : TA := fun σ H Q => ∃ ρ I σT h, HR K mg ρ I h H ∧ SR K mg ρ I h H σT σ ∧
  Nx K mg W σ ρ I h H (f σT h) fun ts h' ρ' I' H' => ∀ vs, Pks K mg ρ' I' H' vs ts → Q vs H'

theorem live_some (r : HR K mg ρ I h H) {a : Addr} (l : Live ρ h a) : (H a).isSome := by
  obtain ⟨n, o, e1, e2, nd⟩ := l
  have q := r.obj n o a e2 e1
  cases o with
  | lst l => obtain ⟨vs, q, _⟩ := q; exact isSome_of q
  | dct l => obtain ⟨vs, q, _⟩ := q; exact isSome_of q
  | ins _ _ => exact False.elim q
  | dead => exact (nd rfl).elim
theorem RepO.mono (k : Kp ρ I H ρ' I' H') {a : Addr} {o : HOb} (e : o ≠ .dead → H' a = H a) (q : RepO K mg ρ I H a o) : RepO K mg ρ' I' H' a o := by
  cases o with
  | lst l => obtain ⟨vs, q, w⟩ := q; exact ⟨vs, (e (fun z => by cases z)).trans q, w.mono k⟩
  | dct l => obtain ⟨vs, q, w⟩ := q; exact ⟨vs, (e (fun z => by cases z)).trans q, w.mono k⟩
  | ins _ _ => exact False.elim q
  | dead => trivial
theorem upd_keep {p a : Addr} {o : HO} (hp : H p = none) (d : (H a).isSome) : upd H p o a = H a := upd_ne (fun z => by subst z; exact not_none d hp)
theorem upd_dom {p a : Addr} {o : HO} (d : (H a).isSome) : (upd H p o a).isSome := by
  unfold upd; split
  · rfl
  · exact d
theorem none_of_upd {p a : Addr} {o : HO} (e : upd H p o a = none) : H a = none := by
  unfold upd at e; split at e
  · cases e
  · exact e
/-- a new thing that nobody holds yet -/
theorem ext_new {p : Addr} (o : HO) (hp : H p = none) : Ext ρ I h H ρ I h (upd H p o) where
  pre := fun _ _ e => e
  sub := fun _ e => e
  keep := fun a d _ => upd_keep hp d
  dom := fun a d => upd_dom d
  inew := fun a e => .inl e
  lnew := fun a e => .inl e
theorem kp_new {p : Addr} (o : HO) (r : HR K mg ρ I h H) (hp : H p = none) : Kp ρ I H ρ I (upd H p o) := (ext_new (h := h) o hp).kp r
theorem hr_new {p : Addr} (o : HO) (r : HR K mg ρ I h H) (hp : H p = none) : HR K mg ρ I h (upd H p o) where
  len := r.len
  inj := r.inj
  dis := r.dis
  idom := fun a i => upd_dom (r.idom a i)
  obj := fun n u a e1 e2 => (r.obj n u a e1 e2).mono (kp_new o r hp) fun nd => upd_keep hp (live_some r ⟨n, u, e2, e1, nd⟩)
/-- .. one that never changes -/
def Iw (I : Addr → Prop) (p : Addr) : Addr → Prop := fun a => I a ∨ a = p
theorem ext_imm {p : Addr} (o : HO) (hp : H p = none) : Ext ρ I h H ρ (Iw I p) h (upd H p o) where
  pre := fun _ _ e => e
  sub := fun _ e => .inl e
  keep := fun a d _ => upd_keep hp d
  dom := fun a d => upd_dom d
  inew := fun a e => e.elim .inl fun z => .inr (.inl (z ▸ hp))
  lnew := fun a e => .inl e
theorem hr_imm {p : Addr} (o : HO) (r : HR K mg ρ I h H) (hp : H p = none) : HR K mg ρ (Iw I p) h (upd H p o) where
  len := r.len
  inj := r.inj
  dis := fun a l i => i.elim (r.dis a l) fun z => not_none (live_some r l) (z ▸ hp)
  idom := fun a i => i.elim (fun z => upd_dom (r.idom a z)) fun z => by rw [z]; exact isSome_of upd_same
  obj := fun n u a e1 e2 => (r.obj n u a e1 e2).mono ((ext_imm (h := h) o hp).kp r) fun nd => upd_keep hp (live_some r ⟨n, u, e2, e1, nd⟩)
/-- a fresh list is kept from now on: nobody changes it -/
theorem Ext.hold {ρ1 : List Addr} {I1 : Addr → Prop} {h1 : Hs} {H1 : Hp} {a : Addr} (x : Ext ρ I h H ρ1 I1 h1 H1) (e : H a = none) : Ext ρ I h H ρ1 (Iw I1 a) h1 H1 where
  pre := x.pre
  sub := fun b i => .inl (x.sub b i)
  keep := x.keep
  dom := x.dom
  inew := fun b i => i.elim (x.inew b) fun z => .inr (.inl (z ▸ e))
  lnew := x.lnew
theorem kp_hold {a : Addr} : Kp ρ I H ρ (Iw I a) H := ⟨fun _ _ e => e, fun _ e => .inl e, fun _ _ => rfl⟩
theorem HR.hold {a : Addr} (r : HR K mg ρ I h H) (nl : ¬ Live ρ h a) (d : (H a).isSome) : HR K mg ρ (Iw I a) h H where
  len := r.len
  inj := r.inj
  dis := fun b l i => i.elim (r.dis b l) fun z => nl (z ▸ l)
  idom := fun b i => i.elim (r.idom b) fun z => z ▸ d
  obj := fun n u b e1 e2 => (r.obj n u b e1 e2).mono kp_hold fun _ => rfl
/-- what is given is kept as a value -/
theorem RO.keep {ρ1 : List Addr} {I1 : Addr → Prop} {h1 : Hs} {H1 : Hp} {v : V} {r : R} {t : T} (o : RO K mg ρ1 I1 h1 H1 H σT σ v r) (x : Ext ρ I h H ρ1 I1 h1 H1) (r1 : HR K mg ρ1 I1 h1 H1) (e : frz r = some t) :
    ∃ I2, Ext ρ I h H ρ1 I2 h1 H1 ∧ HR K mg ρ1 I2 h1 H1 ∧ Rep K mg ρ1 I2 H1 v t := by
  cases r with
  | v u => cases e; exact ⟨I1, x, r1, o⟩
  | al l =>
    cases e
    obtain ⟨a, vs, e, n, p, ni, nl, w⟩ := o
    exact ⟨Iw I1 a, x.hold n, r1.hold nl (isSome_of p), a, vs, e, .inr rfl, p, w.mono kp_hold⟩
  | bw i => cases e
end
/-- a weaker reading -/
theorem PE.imp {X : Cx} {e : Expr} {t t' : TE} (p : PE X e t) (f : ∀ σ H Q, t' σ H Q → t σ H Q) : PE X e t' := ⟨fun pins s σ H Q I h => p.run pins s σ H Q I (f σ H Q h)⟩
theorem PT.imp {X : Cx} {e : Expr} {t t' : TT} (p : PT X e t) (f : ∀ σ H Q, t' σ H Q → t σ H Q) : PT X e t' := ⟨fun pins s σ H Q I h => p.run pins s σ H Q I (f σ H Q h)⟩
theorem PW.imp {X : Cx} {e : Expr} {t t' : TT} (p : PW X e t) (f : ∀ σ H Q, t' σ H Q → t σ H Q) : PW X e t' := ⟨fun wh pins s σ H Q I h => p.run wh pins s σ H Q I (f σ H Q h)⟩
theorem PA.imp {X : Cx} {e : List Expr} {t t' : TA} (p : PA X e t) (f : ∀ σ H Q, t' σ H Q → t σ H Q) : PA X e t' := ⟨fun pos pins s σ H Q I h => p.run pos pins s σ H Q I (f σ H Q h)⟩
theorem PS.imp {X : Cx} {e : Stmt} {t t' : TS} (p : PS X e t) (f : ∀ D σ H, t' D σ H → t D σ H) : PS X e t' := ⟨fun pins s σ H D I h => p.run pins s σ H D I (f D σ H h)⟩
theorem PSs.imp {X : Cx} {e : List Stmt} {t t' : TS} (p : PSs X e t) (f : ∀ D σ H, t' D σ H → t D σ H) : PSs X e t' := ⟨fun pins s σ H D I h => p.run pins s σ H D I (f D σ H h)⟩
theorem OpR.imp {X : Cx} {f : Value → Value → Sem Value} {r r' : R2} (p : OpR X f r) (g : ∀ x y H Q, r' x y H Q → r x y H Q) : OpR X f r' := fun pins s σ H x y v u Q I rx ry h => p pins s σ H x y v u Q I rx ry (g x y H Q h)
theorem CallR.imp {X : Cx} {f : Value} {r r' : List V → Hp → VK → Prop} (p : CallR X f r) (g : ∀ xs H Q, r' xs H Q → r xs H Q) : CallR X f r' := fun pins s σ H xs us Q I rx h => p pins s σ H xs us Q I rx (g xs H Q h)
/-- what an operation gives, from the state at which it stands -/
def Gv (K : PySem.W.Frag) (mg : Str → Option Value) (ρ : List Addr) (I : Addr → Prop) (h : Hs) (H : Hp) (Q : VK) (r : R) : Prop :=
  ∀ v H' ρ' I', Ext ρ I h H ρ' I' h H' → HR K mg ρ' I' h H' → RO K mg ρ' I' h H' H [] [] v r → Q v H'
theorem RO.any {K : PySem.W.Frag} {mg : Str → Option Value} {ρ : List Addr} {I : Addr → Prop} {h : Hs} {H H0 : Hp} {σT : Slots} {σ : St} {v : V} {r : R} (o : RO K mg ρ I h H H0 [] [] v r) : RO K mg ρ I h H H0 σT σ v r := by
  cases r with
  | v t => exact o
  | al l => exact o
  | bw i => exact (by obtain ⟨e, _⟩ := o; simp at e)
section
variable {K : PySem.W.Frag} {mg : Str → Option Value} {ρ : List Addr} {I : Addr → Prop} {h : Hs} {H : Hp} {Q : VK}
/-- a flat value -/
theorem Gv.v {t : T} {v : V} (g : Gv K mg ρ I h H Q (.v t)) (r : HR K mg ρ I h H) (q : Rep K mg ρ I H v t) : Q v H := g v H ρ I .refl r q
theorem Gv.al {l : List T} {vs : List V} {p : Addr} (g : Gv K mg ρ I h H Q (.al l)) (r : HR K mg ρ I h H) (hp : H p = none) (q : Reps K mg ρ I H vs l) : Q (.ref p) (upd H p (.lst vs)) :=
  g _ _ ρ I (ext_new _ hp) (hr_new _ r hp) ⟨p, vs, rfl, hp, upd_same, fun z => not_none (r.idom p z) hp, fun z => not_none (live_some r z) hp, q.mono (kp_new _ r hp)⟩
theorem Gv.tup {l : List T} {vs : List V} {p : Addr} (g : Gv K mg ρ I h H Q (.v (.tup l))) (r : HR K mg ρ I h H) (hp : H p = none) (q : Reps K mg ρ I H vs l) : Q (.ref p) (upd H p (.tup vs)) :=
  g _ _ ρ (Iw I p) (ext_imm _ hp) (hr_imm _ r hp) ⟨p, vs, rfl, .inl ⟨.inr rfl, .of upd_same⟩, q.mono ((ext_imm (h := h) _ hp).kp r)⟩
end
end VY
namespace VY
open PySem PySem.Spec
open PyProof.Rows hiding St
open L2
theorem no_some {α : Type} {a : α} (e : (none : Option α) = some a) : False := nomatch e
theorem mulOk_ok {i j : Int} (h : mulOk i j = true) : IntMulOk i j := by
  unfold mulOk at h
  simp only [Bool.or_eq_true, decide_eq_true_eq] at h
  rcases h with (h | h) | h
  · exact CMul.ok (.inl h)
  · exact CMul.ok (.inr h)
  · exact CMulW.ok h
section
variable {X : Cx} {K : PySem.W.Frag} {mg : Str → Option Value} {ρ : List Addr} {I : Addr → Prop} {h : Hs} {H : Hp} {Q : VK}
def rOp (K : PySem.W.Frag) (mg : Str → Option Value) (op : Operator) : R2 := fun x y H Q => ∃ ρ I h t u r, HR K mg ρ I h H ∧ Pk K mg ρ I H x t ∧ Pk K mg ρ I H y u ∧ opR op t u = some r ∧ Gv K mg ρ I h H Q r
theorem op_mulT : OpR X (binaryOp .Mult) (rI (fun i j => mulOk i j = true) fun i j => .int (i * j)) := opI fun _ _ _ _ _ _ _ hc q => mul_int q (mulOk_ok hc)
theorem op_powT : OpR X (binaryOp .Pow) (rI (fun i j => 0 ≤ j ∧ (Builtin.Int.intBits i : Int) * j ≤ 2 ^ 27) fun i j => .int (i ^ j.toNat)) := opI fun _ _ _ _ _ _ _ hc q => pow_int hc.1 hc.2 q
theorem ite_some {α : Type} {c : Prop} [Decidable c] {a b : α} (e : (if c then some a else none) = some b) : c ∧ a = b := by
  split at e
  · exact ⟨by assumption, Option.some.inj e⟩
  · cases e
theorem op_sound (op : Operator) : OpR X (binaryOp op) (rOp K mg op) := by
  cases op with
  | Add =>
    refine OpR.imp (op_add.or (op_add_str.or op_cat)) ?_
    rintro x y H Q ⟨ρ, I, h, t, u, r, hr, p, q, e, g⟩
    cases t <;> cases u <;> try exact (no_some e).elim
    · cases e
      exact .inl ⟨_, _, p, q, g.v hr rfl⟩
    · obtain ⟨c, rfl⟩ := ite_some (show (if _ then some _ else none) = some r from e)
      exact .inr (.inl ⟨_, _, p, q, by rw [sizeLine_eq]; exact c, g.v hr rfl⟩)
    · obtain ⟨c, rfl⟩ := ite_some (show (if _ then some _ else none) = some r from e)
      obtain ⟨a, vs, rfl, pa, wa⟩ := p
      obtain ⟨b, ws, rfl, pb, wb⟩ := q
      exact .inr (.inr ⟨a, b, vs, ws, rfl, rfl, pa, pb, by rw [wa.length, wb.length, sizeLine_eq]; exact c, fun p hp => g.al hr hp (wa.append wb)⟩)
  | Sub =>
    refine OpR.imp op_sub ?_
    rintro x y H Q ⟨ρ, I, h, t, u, r, hr, p, q, e, g⟩
    cases t <;> cases u <;> try exact (no_some e).elim
    cases e
    exact ⟨_, _, p, q, g.v hr rfl⟩
  | Mult =>
    refine OpR.imp (op_mulT.or op_rep) ?_
    rintro x y H Q ⟨ρ, I, h, t, u, r, hr, p, q, e, g⟩
    cases t <;> cases u <;> try exact (no_some e).elim
    · obtain ⟨c, rfl⟩ := ite_some (show (if _ then some _ else none) = some r from e)
      exact .inl ⟨_, _, p, q, c, g.v hr rfl⟩
    · obtain ⟨⟨c1, c2, c3⟩, rfl⟩ := ite_some (show (if _ then some _ else none) = some r from e)
      obtain ⟨a, vs, rfl, pa, wa⟩ := p
      exact .inr ⟨a, _, vs, rfl, q, pa, c1, c2, by rw [wa.length, sizeLine_eq]; exact c3, fun p hp => g.al hr hp (wa.rep _)⟩
  | FloorDiv =>
    refine OpR.imp (op_fdivW.or op_fdivN) ?_
    rintro x y H Q ⟨ρ, I, h, t, u, r, hr, p, q, e, g⟩
    cases t <;> cases u <;> try exact (no_some e).elim
    rename_i i j
    have e' : (fdivT i j).map (fun r => R.v (.int r)) = some r := e
    unfold fdivT at e'
    split at e'
    · cases e'
      exact .inl ⟨_, _, p, q, by assumption, g.v hr rfl⟩
    · split at e'
      · cases e'
        exact .inr ⟨_, _, p, q, by assumption, g.v hr rfl⟩
      · cases e'
  | Mod =>
    refine OpR.imp (op_mod.or op_modN) ?_
    rintro x y H Q ⟨ρ, I, h, t, u, r, hr, p, q, e, g⟩
    cases t <;> cases u <;> try exact (no_some e).elim
    rename_i i j
    have e' : (modT i j).map (fun r => R.v (.int r)) = some r := e
    unfold modT at e'
    split at e'
    · cases e'
      exact .inl ⟨_, _, p, q, by assumption, g.v hr rfl⟩
    · split at e'
      · cases e'
        exact .inr ⟨_, _, p, q, by assumption, g.v hr rfl⟩
      · cases e'
  | Pow =>
    refine OpR.imp op_powT ?_
    rintro x y H Q ⟨ρ, I, h, t, u, r, hr, p, q, e, g⟩
    cases t <;> cases u <;> try exact (no_some e).elim
    rename_i i j
    have e' : (powT i j).map (fun r => R.v (.int r)) = some r := e
    unfold powT at e'
    split at e'
    · cases e'
      exact ⟨_, _, p, q, by assumption, g.v hr rfl⟩
    · cases e'
  | _ =>
    rintro pins s σ H x y v u Q I rx ry ⟨ρ, I', h, t, u, r, hr, p, q, e, g⟩
    (cases t <;> cases u <;> exact (no_some e).elim)

theorem IxR.imp {r r' : R2} (p : IxR X r) (g : ∀ x y H Q, r' x y H Q → r x y H Q) : IxR X r' := by
  unfold IxR at p ⊢
  intros
  apply p <;> first | assumption | (apply g; assumption)
theorem SlR.imp {r r' : V → Option Int → Option Int → Hp → VK → Prop} (p : SlR X r) (g : ∀ x lo hi H Q, r' x lo hi H Q → r x lo hi H Q) : SlR X r' := by
  unfold SlR at p ⊢
  intros
  apply p <;> first | assumption | (apply g; assumption)
mutual
theorem Rep.dp {d : PyData} : ∀ {v : V} {t : T}, Rep K mg ρ I H v t → toD t = some d → Dp K H v d
  | _, .non, e, z => by cases z; cases e; exact .non
  | _, .bl _, e, z => by cases z; cases e; exact .bl _
  | _, .int _, e, z => by cases z; cases e; exact .int _
  | _, .str _, e, z => by cases z; cases e; exact .str _
  | _, .tup l, ⟨a, vs, e, r, q⟩, z => by
    subst e
    cases y : toDs l with
    | none => rw [toD, y] at z; cases z
    | some ds =>
      rw [toD, y] at z; cases z
      exact .tup (r.elim (fun u => .inl u.2) .inr) (Reps.dp q y)
  | _, .lst l, ⟨a, vs, e, i, r, q⟩, z => by
    subst e
    cases y : toDs l with
    | none => rw [toD, y] at z; cases z
    | some ds =>
      rw [toD, y] at z; cases z
      exact .lst (SqL.of r) (Reps.dp q y)
  | _, .slst l, ⟨a, vs, e, r, q⟩, z => by
    subst e
    cases y : toDs l with
    | none => rw [toD, y] at z; cases z
    | some ds =>
      rw [toD, y] at z; cases z
      exact .lst (r.elim (fun u => .inl u.2) .inr) (Reps.dp q y)
  | _, .ty _, _, z => by cases z
  | _, .gl _, _, z => by cases z
  | _, .ref _, _, z => by cases z
  | _, .dct _, _, z => by cases z
theorem Reps.dp : ∀ {vs : List V} {l : List T} {ds : List PyData}, Reps K mg ρ I H vs l → toDs l = some ds → DpAll K H vs ds
  | [], [], _, _, z => by cases z; exact .nil
  | v :: vs, t :: l, ds, ⟨a, b⟩, z => by
    cases y : toD t with
    | none => rw [toDs, y] at z; cases z
    | some d =>
      cases y' : toDs l with
      | none => rw [toDs, y, y'] at z; cases z
      | some ds' =>
        rw [toDs, y, y'] at z; cases z
        exact .cons (Rep.dp a y) (Reps.dp b y')
end
theorem Pk.dp {d : PyData} {v : V} {t : T} (p : Pk K mg ρ I H v t) (z : toD t = some d) : Dp K H v d := by
  cases t with
  | lst l =>
    obtain ⟨a, vs, rfl, r, q⟩ := p
    cases y : toDs l with
    | none => rw [toD, y] at z; cases z
    | some ds =>
      rw [toD, y] at z; cases z
      exact .lst (SqL.of r) (q.dp y)
  | _ => exact Rep.dp p z
theorem flat_v {v w : V} : ∀ {t : T}, Pk K mg ρ I H v t → inT.flatOf t = some w → v = w
  | .non, e, z => by cases z; exact e
  | .bl _, e, z => by cases z; exact e
  | .int _, e, z => by cases z; exact e
  | .str _, e, z => by cases z; exact e
  | .tup _, _, z => by cases z
  | .lst _, _, z => by cases z
  | .slst _, _, z => by cases z
  | .dct _, _, z => by cases z
  | .ty _, _, z => by cases z
  | .gl _, _, z => by cases z
  | .ref _, _, z => by cases z
theorem flat_vs : ∀ {vs ws : List V} {l : List T}, Reps K mg ρ I H vs l → l.mapM inT.flatOf = some ws → vs = ws
  | [], ws, [], _, z => by simp at z; exact z.symm
  | v :: vs, ws, t :: l, ⟨a, b⟩, z => by
    rw [List.mapM_cons] at z
    cases y : inT.flatOf t with
    | none => rw [y] at z; cases z
    | some w =>
      cases y' : l.mapM inT.flatOf with
      | none => rw [y, y'] at z; cases z
      | some ws' =>
        rw [y, y'] at z
        have z' : w :: ws' = ws := Option.some.inj z
        rw [← z', flat_v (Pk.of a) y, flat_vs b y']
def rCmp (K : PySem.W.Frag) (mg : Str → Option Value) (op : CmpOp) : R2 := fun x y H Q => ∃ ρ I h t u k, HR K mg ρ I h H ∧ Pk K mg ρ I H x t ∧ Pk K mg ρ I H y u ∧ cmpR op t u = some k ∧ Q (.bl k) H
theorem and_tt {a b : Bool} (h : (a && b) = true) : a = true ∧ b = true := Bool.and_eq_true_iff.mp h
theorem eqT_inv {t u : T} {k : Bool} (e : eqT t u = some k) : ∃ d e', toD t = some d ∧ toD u = some e' ∧ SeqAt.shaped d = true ∧ SeqAt.shaped e' = true ∧ PyData.eqv d e' = k := by
  unfold eqT at e
  cases y : toD t with
  | none => rw [y] at e; cases e
  | some d =>
    cases y' : toD u with
    | none => rw [y, y'] at e; cases e
    | some d' =>
      rw [y, y'] at e
      obtain ⟨c, z⟩ := ite_some (show (if _ then some _ else none) = some k from e)
      exact ⟨d, d', rfl, rfl, (and_tt c).1, (and_tt c).2, z⟩
theorem in_lst {t : T} {l : List T} {k : Bool} {v u : V} (p : Pk K mg ρ I H v t) {a : Addr} {vs : List V} (ea : u = .ref a) (s : SqL K H a vs) (q : Reps K mg ρ I H vs l)
    (e : (match toD t, toDs l with | some d, some ds => if SeqAt.shaped d && SeqAt.shaped (.list ds) then some (ds.any fun z => PyData.eqv z d) else none | _, _ => none) = some k) :
    ∃ d ds, Dp K H v d ∧ Dp K H u (.list ds) ∧ SeqAt.shaped d = true ∧ SeqAt.shaped (.list ds) = true ∧ (ds.any fun z => PyData.eqv z d) = k := by
  cases y : toD t with
  | none => rw [y] at e; cases e
  | some d =>
    cases y' : toDs l with
    | none => rw [y, y'] at e; cases e
    | some ds =>
      rw [y, y'] at e
      obtain ⟨c, z⟩ := ite_some (show (if _ then some _ else none) = some k from e)
      exact ⟨d, ds, p.dp y, ea ▸ .lst s (q.dp y'), (and_tt c).1, (and_tt c).2, z⟩
theorem in_tup {t : T} {l : List T} {k : Bool} {v : V} {vs : List V} (p : Pk K mg ρ I H v t) (q : Reps K mg ρ I H vs l) (e : inT.flatIn t l = some k) : flatV v = true ∧ vs.all flatV = true ∧ inV v vs = k := by
  unfold inT.flatIn at e
  cases y : inT.flatOf t with
  | none => rw [y] at e; cases e
  | some w =>
    cases y' : l.mapM inT.flatOf with
    | none => rw [y, y'] at e; cases e
    | some ws =>
      rw [y, y'] at e
      obtain ⟨c, z⟩ := ite_some (show (if _ then some _ else none) = some k from e)
      rw [flat_v p y, flat_vs q y']
      exact ⟨(and_tt c).1, (and_tt c).2, z⟩
theorem is_non {v : V} {t : T} (p : Pk K mg ρ I H v t) : decide (v = .non) = (match t with | .non => true | _ => false) := by
  cases t with
  | non => cases (show v = .non from p); rfl
  | bl b => cases (show v = .bl b from p); rfl
  | int b => cases (show v = .int b from p); rfl
  | str b => cases (show v = .str b from p); rfl
  | ty b => cases (show v = .ty b from p); rfl
  | gl x => obtain ⟨a, rfl, _⟩ := (show ∃ a, v = .ref a ∧ mg x = some (.ref a) from p); rfl
  | ref n => obtain ⟨a, rfl, _⟩ := (show ∃ a, v = .ref a ∧ ρ[n]? = some a from p); rfl
  | tup l => obtain ⟨a, vs, rfl, _⟩ := (show ∃ a vs, v = .ref a ∧ _ ∧ _ from p); rfl
  | lst l => obtain ⟨a, vs, rfl, _⟩ := (show ∃ a vs, v = .ref a ∧ _ ∧ _ from p); rfl
  | slst l => obtain ⟨a, vs, rfl, _⟩ := (show ∃ a vs, v = .ref a ∧ _ ∧ _ from p); rfl
  | dct l => obtain ⟨a, vs, rfl, _⟩ := (show ∃ a vs, v = .ref a ∧ _ ∧ _ from p); rfl
theorem cmp_ii {f : Int → Int → Bool} {op : CmpOp} (hf : ∀ i j, cmpR op (.int i) (.int j) = some (f i j)) (hn : ∀ t u k, cmpR op t u = some k → (∃ i, t = .int i) ∧ ∃ j, u = .int j)
    (hr : OpR X (compareOp op) (rI0 fun i j => .bl (f i j))) : OpR X (compareOp op) (rCmp K mg op) := by
  refine OpR.imp hr ?_
  rintro x y H Q ⟨ρ, I, h, t, u, k, r, p, q, e, g⟩
  obtain ⟨⟨i, rfl⟩, ⟨j, rfl⟩⟩ := hn t u k e
  rw [hf] at e
  cases e
  exact ⟨i, j, p, q, g⟩
theorem opR_mapNot {o : Option Bool} {k : Bool} (e : o.map (!·) = some k) : o = some (!k) := by
  cases o with
  | none => cases e
  | some b =>
    have e' : (!b) = k := Option.some.inj e
    rw [← e', Bool.not_not]
theorem cmp_sound (hK : K = X.K) (hu : X.A.units + 65 < cLine) (op : CmpOp) : OpR X (compareOp op) (rCmp K mg op) := by
  subst hK
  have hu' : X.A.units + 64 < cLine := by omega
  cases op with
  | Eq =>
    refine OpR.imp (op_eqD hu') ?_
    rintro x y H Q ⟨ρ, I, h, t, u, k, r, p, q, e, g⟩
    obtain ⟨d, d', e1, e2, s1, s2, z⟩ := eqT_inv e
    exact ⟨d, d', p.dp e1, q.dp e2, s1, s2, by rw [z]; exact g⟩
  | NotEq =>
    refine OpR.imp (op_neD hu') ?_
    rintro x y H Q ⟨ρ, I, h, t, u, k, r, p, q, e, g⟩
    obtain ⟨d, d', e1, e2, s1, s2, z⟩ := eqT_inv (opR_mapNot e)
    exact ⟨d, d', p.dp e1, q.dp e2, s1, s2, by rw [z, Bool.not_not]; exact g⟩
  | Lt => exact cmp_ii (fun _ _ => rfl) (fun t u k e => by cases t <;> cases u <;> simp [cmpR] at e ⊢) op_lt
  | LtE => exact cmp_ii (fun _ _ => rfl) (fun t u k e => by cases t <;> cases u <;> simp [cmpR] at e ⊢) op_le
  | Gt => exact cmp_ii (fun _ _ => rfl) (fun t u k e => by cases t <;> cases u <;> simp [cmpR] at e ⊢) op_gt
  | GtE => exact cmp_ii (fun _ _ => rfl) (fun t u k e => by cases t <;> cases u <;> simp [cmpR] at e ⊢) op_ge
  | Is =>
    refine OpR.imp op_isN ?_
    rintro x y H Q ⟨ρ, I, h, t, u, k, r, p, q, e, g⟩
    have e1 : u = .non := by cases u <;> simp [cmpR] at e ⊢
    subst e1
    refine ⟨q, ?_⟩
    rw [is_non p]
    cases t <;> (cases e; exact g)
  | IsNot =>
    refine OpR.imp op_notN ?_
    rintro x y H Q ⟨ρ, I, h, t, u, k, r, p, q, e, g⟩
    have e1 : u = .non := by cases u <;> simp [cmpR] at e ⊢
    subst e1
    refine ⟨q, ?_⟩
    rw [is_non p]
    cases t <;> (cases e; exact g)
  | In =>
    refine OpR.imp ((op_inD hu).or op_in_seq) ?_
    rintro x y H Q ⟨ρ, I, h, t, u, k, r, p, q, e, g⟩
    have e' : inT t u = some k := e
    cases u with
    | lst l =>
      obtain ⟨a, vs, ea, s, w⟩ := q
      obtain ⟨d, ds, z1, z2, z3, z4, z5⟩ := in_lst p ea (SqL.of s) w e'
      exact .inl ⟨d, ds, z1, z2, z3, z4, by rw [z5]; exact g⟩
    | slst l =>
      obtain ⟨a, vs, ea, s, w⟩ := q
      obtain ⟨d, ds, z1, z2, z3, z4, z5⟩ := in_lst p ea (s.elim (fun u => .inl u.2) .inr) w e'
      exact .inl ⟨d, ds, z1, z2, z3, z4, by rw [z5]; exact g⟩
    | tup l =>
      obtain ⟨a, vs, ea, s, w⟩ := q
      obtain ⟨z1, z2, z3⟩ := in_tup p w e'
      exact .inr ⟨a, vs, ea, .inr (s.elim (fun u => .inl u.2) .inr), z1, z2, by rw [z3]; exact g⟩
    | _ => cases e'
  | NotIn =>
    refine OpR.imp ((op_notInD hu).or op_notIn_seq) ?_
    rintro x y H Q ⟨ρ, I, h, t, u, k, r, p, q, e, g⟩
    have e' : inT t u = some (!k) := opR_mapNot e
    cases u with
    | lst l =>
      obtain ⟨a, vs, ea, s, w⟩ := q
      obtain ⟨d, ds, z1, z2, z3, z4, z5⟩ := in_lst p ea (SqL.of s) w e'
      exact .inl ⟨d, ds, z1, z2, z3, z4, by rw [z5, Bool.not_not]; exact g⟩
    | slst l =>
      obtain ⟨a, vs, ea, s, w⟩ := q
      obtain ⟨d, ds, z1, z2, z3, z4, z5⟩ := in_lst p ea (s.elim (fun u => .inl u.2) .inr) w e'
      exact .inl ⟨d, ds, z1, z2, z3, z4, by rw [z5, Bool.not_not]; exact g⟩
    | tup l =>
      obtain ⟨a, vs, ea, s, w⟩ := q
      obtain ⟨z1, z2, z3⟩ := in_tup p w e'
      exact .inr ⟨a, vs, ea, .inr (s.elim (fun u => .inl u.2) .inr), z1, z2, by
        show Q (.bl (if true = true then !inV x vs else inV x vs)) H
        rw [if_pos rfl, z3, Bool.not_not]; exact g⟩
    | _ => cases e'
/-- truth -/
theorem empty_eq {vs : List V} {l : List T} (q : Reps K mg ρ I H vs l) : vs.isEmpty = l.isEmpty := by
  cases vs <;> cases l <;> first | rfl | exact q.elim
theorem tru_v {v : V} {t : T} {k : Bool} (p : Pk K mg ρ I H v t) (e : truT t = some k) : TruV K v H k := by
  cases t with
  | non => cases (show v = .non from p); cases e; exact rfl
  | bl b => cases (show v = .bl b from p); cases e; exact rfl
  | int i => cases (show v = .int i from p); cases e; exact rfl
  | str s =>
    cases (show v = .str s from p)
    obtain ⟨c, rfl⟩ := ite_some (show (if _ then some _ else none) = some k from e)
    exact ⟨by rw [sizeLine_eq]; exact c, rfl⟩
  | tup l =>
    obtain ⟨a, vs, rfl, s, w⟩ := p
    cases e
    exact .inr (.inl ⟨vs, s.elim (fun u => .inl u.2) .inr, by rw [empty_eq w]⟩)
  | lst l =>
    obtain ⟨a, vs, rfl, s, w⟩ := p
    cases e
    exact .inl ⟨vs, SqL.of s, by rw [empty_eq w]⟩
  | slst l =>
    obtain ⟨a, vs, rfl, s, w⟩ := p
    cases e
    exact .inl ⟨vs, s.elim (fun u => .inl u.2) .inr, by rw [empty_eq w]⟩
  | _ => cases e
/-- an item -/
def rIxD (K : PySem.W.Frag) (mg : Str → Option Value) : R2 := fun x y H Q => ∃ ρ I h t u r, HR K mg ρ I h H ∧ Pk K mg ρ I H x t ∧ Rep K mg ρ I H y u ∧
  ((∃ n l, t = .ref n ∧ h[n]? = some (.lst l) ∧ ∃ i, u = .int i ∧ atI l i = some r) ∨ ixR t u = some r) ∧ ∀ v, Rep K mg ρ I H v r → Q v H
theorem ix_sound (hK : K = X.K) : IxR X (rIxD K mg) := by
  subst hK
  refine IxR.imp ix_seq ?_
  intro x y H Q hh
  obtain ⟨ρ, I', h, t, u, r, hr, p, q, e, g⟩ := hh
  rcases e with ⟨n, l, rfl, en, i, rfl, e⟩ | e
  · obtain ⟨a, rfl, ea⟩ := (show ∃ a, x = .ref a ∧ ρ[n]? = some a from p)
    obtain ⟨vs, z, w⟩ := hr.obj n _ a en ea
    obtain ⟨v', e1, rv⟩ := w.at e
    exact .inl ⟨a, vs, i, v', rfl, q, SqL.of z, e1, g _ rv⟩
  · cases t <;> cases u <;> try exact (no_some e).elim
    · rename_i z i
      obtain ⟨c, e⟩ := (show z.length ≤ SL ∧ (atI z.cps.toList i).map (fun c => T.str ⟨#[c]⟩) = some r from by
        have e' : (if z.length ≤ SL then (atI z.cps.toList i).map fun c => T.str ⟨#[c]⟩ else none) = some r := e
        split at e'
        · exact ⟨by assumption, e'⟩
        · cases e')
      cases f : atI z.cps.toList i with
      | none => rw [f] at e; cases e
      | some c' =>
        rw [f] at e
        cases e
        exact .inr (.inr ⟨z, i, c', p, q, by rw [sizeLine_eq]; exact c, f, g _ rfl⟩)
    · obtain ⟨a, vs, rfl, s, w⟩ := p
      obtain ⟨v', e1, rv⟩ := w.at e
      exact .inr (.inl ⟨a, vs, _, v', rfl, q, s.elim (fun u => .inl u.2) .inr, e1, g _ rv⟩)
    · obtain ⟨a, vs, rfl, s, w⟩ := p
      obtain ⟨v', e1, rv⟩ := w.at e
      exact .inl ⟨a, vs, _, v', rfl, q, SqL.of s, e1, g _ rv⟩
    · obtain ⟨a, vs, rfl, s, w⟩ := p
      obtain ⟨v', e1, rv⟩ := w.at e
      exact .inl ⟨a, vs, _, v', rfl, q, s.elim (fun u => .inl u.2) .inr, e1, g _ rv⟩
/-- a slice -/
theorem sl_sound (hK : K = X.K) : SlR X fun x lo hi H Q => ∃ ρ I h t r, HR K mg ρ I h H ∧ Pk K mg ρ I H x t ∧ slR t lo hi = some r ∧ Gv K mg ρ I h H Q r := by
  subst hK
  refine SlR.imp sl_list ?_
  intro x lo hi H Q hh
  obtain ⟨ρ, I', h, t, r, hr, p, e, g⟩ := hh
  cases t with
  | lst l =>
    obtain ⟨a, vs, rfl, s, w⟩ := p
    cases e
    exact ⟨a, vs, rfl, SqL.of s, fun p hp => g.al hr hp (w.cut lo hi)⟩
  | slst l =>
    obtain ⟨a, vs, rfl, s, w⟩ := p
    cases e
    exact ⟨a, vs, rfl, s.elim (fun u => .inl u.2) .inr, fun p hp => g.al hr hp (w.cut lo hi)⟩
  | _ => cases e
end
end VY
namespace VY
open PySem PySem.Spec
open PyProof.Rows hiding St
open L2

def Bf.name : Bf → Str
  | .len => "len" | .abs => "abs" | .int => "int" | .str => "str" | .isinstance => "isinstance" | .max => "max" | .min => "min" | .tuple => "tuple" | .list => "list"
def Bf.val : Bf → Value
  | .len => .builtin "len" | .abs => .builtin "abs" | .int => .type "int" | .str => .type "str" | .isinstance => .builtin "isinstance" | .max => .builtin "max" | .min => .builtin "min" | .tuple => .type "tuple" | .list => .type "list"
section
variable {X : Cx} {K : PySem.W.Frag} {mg : Str → Option Value} {ρ : List Addr} {I : Addr → Prop} {h : Hs} {H : Hp} {Q : VK}
def rBl (K : PySem.W.Frag) (mg : Str → Option Value) (f : Bf) : List V → Hp → VK → Prop := fun vs H Q => ∃ ρ I h ts r, HR K mg ρ I h H ∧ Pks K mg ρ I H vs ts ∧ bltR f ts = some r ∧ Gv K mg ρ I h H Q r
theorem pks1 {vs : List V} {t : T} (p : Pks K mg ρ I H vs [t]) : ∃ v, vs = [v] ∧ Pk K mg ρ I H v t := by
  match vs, p with
  | [v], p => exact ⟨v, rfl, p.1⟩
  | _ :: _ :: _, p => exact p.2.elim
theorem pks2 {vs : List V} {t u : T} (p : Pks K mg ρ I H vs [t, u]) : ∃ v w, vs = [v, w] ∧ Pk K mg ρ I H v t ∧ Pk K mg ρ I H w u := by
  match vs, p with
  | [v, w], p => exact ⟨v, w, rfl, p.1, p.2.1⟩
  | [_], p => exact p.2.elim
  | _ :: _ :: _ :: _, p => exact p.2.2.elim
theorem seq_of {a : Addr} {vs : List V} (s : (I a ∧ Rd H a (.lst vs)) ∨ StL K a vs) : SqL K H a vs := s.elim (fun u => .inl u.2) .inr
theorem seqT_of {a : Addr} {vs : List V} (s : (I a ∧ Rd H a (.tup vs)) ∨ StT K a vs) : SqT K H a vs := s.elim (fun u => .inl u.2) .inr
theorem ty_of {v : V} {t : T} {a : String} (p : Pk K mg ρ I H v t) (e : tyN t = some a) : TyX K H v (.type a) := by
  cases t with
  | non => cases e; cases (show v = .non from p); exact .base .non
  | bl b => cases e; cases (show v = .bl b from p); exact .base (.bl b)
  | int b => cases e; cases (show v = .int b from p); exact .base (.int b)
  | str b => cases e; cases (show v = .str b from p); exact .base (.str b)
  | tup l =>
    cases e
    obtain ⟨b, vs, rfl, s, _⟩ := p
    rcases s with ⟨_, s | ⟨o, s⟩⟩ | ⟨o, its, n, s, c, _⟩
    · exact .base (.tup s)
    · exact .fTuple s
    · exact .kTuple s c
  | lst l =>
    cases e
    obtain ⟨b, vs, rfl, s, _⟩ := p
    exact .base (.lst s)
  | slst l =>
    cases e
    obtain ⟨b, vs, rfl, s, _⟩ := p
    rcases s with ⟨_, s | ⟨o, s⟩⟩ | ⟨o, its, n, s, c, _⟩
    · exact .base (.lst s)
    · exact .base (.frz s)
    · exact .kList s c
  | _ => cases e
theorem isi_ok {a b : String} {r : Bool} (e : isiS a b = some r) : kitB a b = some r := by
  unfold isiS at e
  split at e
  · rename_i c
    simp only [Bool.and_eq_true, List.contains_iff_mem, List.mem_cons, List.not_mem_nil, or_false] at c
    obtain ⟨ca, cb⟩ := c
    have e' : (a == b || (a == "bool" && b == "int")) = r := Option.some.inj e
    rw [← e']
    rcases ca with rfl | rfl | rfl | rfl | rfl | rfl | rfl <;> rcases cb with rfl | rfl | rfl | rfl | rfl | rfl <;> decide +kernel
  · cases e
theorem len_v {v : V} {t : T} {n : Nat} (p : Pk K mg ρ I H v t) (e : lenT t = some n) : LenV K v H n := by
  cases t with
  | str s =>
    cases (show v = .str s from p)
    obtain ⟨c, rfl⟩ := ite_some (show (if _ then some _ else none) = some n from e)
    exact ⟨by rw [sizeLine_eq]; exact c, rfl⟩
  | tup l =>
    cases e
    obtain ⟨b, vs, rfl, s, w⟩ := p
    exact .inr ⟨vs, seqT_of s, w.length.symm⟩
  | lst l =>
    cases e
    obtain ⟨b, vs, rfl, s, w⟩ := p
    exact .inl ⟨vs, SqL.of s, w.length.symm⟩
  | slst l =>
    cases e
    obtain ⟨b, vs, rfl, s, w⟩ := p
    exact .inl ⟨vs, seq_of s, w.length.symm⟩
  | _ => cases e
theorem Gv.same {l : List T} {a : Addr} {vs : List V} (g : Gv K mg ρ I h H Q (.v (.tup l))) (r : HR K mg ρ I h H) (s : (I a ∧ Rd H a (.tup vs)) ∨ StT K a vs) (w : Reps K mg ρ I H vs l) : Q (.ref a) H := g.v r ⟨a, vs, rfl, s, w⟩
theorem blt_sound (hc : X.calm = true) (hK : K = X.K) (f : Bf) : CallR X f.val (rBl K mg f) := by
  subst hK
  cases f with
  | len =>
    refine CallR.imp call_len ?_
    rintro vs H Q ⟨ρ, I, h, ts, r, hr, p, e, g⟩
    match ts, p, e with
    | [t], p, e =>
      obtain ⟨v, rfl, p1⟩ := pks1 p
      cases y : lenT t with
      | none => rw [bltR, y] at e; cases e
      | some n => rw [bltR, y] at e; cases e; exact ⟨v, n, rfl, len_v p1 y, g.v hr rfl⟩
  | abs =>
    refine CallR.imp call_abs ?_
    rintro vs H Q ⟨ρ, I, h, ts, r, hr, p, e, g⟩
    match ts, p, e with
    | [.int i], p, e =>
      obtain ⟨v, rfl, p1⟩ := pks1 p
      cases (show v = .int i from p1)
      cases e
      exact ⟨i, rfl, g.v hr rfl⟩
  | int =>
    refine CallR.imp call_int1 ?_
    rintro vs H Q ⟨ρ, I, h, ts, r, hr, p, e, g⟩
    match ts, p, e with
    | [.int i], p, e =>
      obtain ⟨v, rfl, p1⟩ := pks1 p
      cases (show v = .int i from p1)
      cases e
      exact .inl ⟨i, rfl, g.v hr rfl⟩
    | [.bl i], p, e =>
      obtain ⟨v, rfl, p1⟩ := pks1 p
      cases (show v = .bl i from p1)
      cases e
      exact .inr ⟨i, rfl, g.v hr rfl⟩
  | str =>
    refine CallR.imp call_str_int ?_
    rintro vs H Q ⟨ρ, I, h, ts, r, hr, p, e, g⟩
    match ts, p, e with
    | [.int i], p, e =>
      obtain ⟨v, rfl, p1⟩ := pks1 p
      cases (show v = .int i from p1)
      obtain ⟨c, rfl⟩ := ite_some (show (if _ then some _ else none) = some r from e)
      exact ⟨i, rfl, c, g.v hr rfl⟩
  | isinstance =>
    refine CallR.imp call_isi ?_
    rintro vs H Q ⟨ρ, I, h, ts, r, hr, p, e, g⟩
    match ts, p, e with
    | [t, .ty n], p, e =>
      obtain ⟨v, w, rfl, p1, q1⟩ := pks2 p
      cases (show w = .ty n from q1)
      cases y : tyN t with
      | none => rw [bltR, y] at e; cases e
      | some a =>
        rw [bltR, y] at e
        have e1 : (isiS a n).map (fun b => R.v (.bl b)) = some r := e
        cases z : isiS a n with
        | none => rw [z] at e1; cases e1
        | some b =>
          rw [z] at e1
          cases e1
          exact ⟨v, .ty n, .type a, .type n, b, rfl, .ty n, ty_of p1 y, kit_ty (isi_ok z), g.v hr rfl⟩
  | max =>
    refine CallR.imp (call_max2 hc) ?_
    rintro vs H Q ⟨ρ, I, h, ts, r, hr, p, e, g⟩
    match ts, p, e with
    | [.int i, .int j], p, e =>
      obtain ⟨v, w, rfl, p1, q1⟩ := pks2 p
      cases (show v = .int i from p1)
      cases (show w = .int j from q1)
      cases e
      exact ⟨i, j, rfl, g.v hr rfl⟩
  | min =>
    refine CallR.imp (call_min2 hc) ?_
    rintro vs H Q ⟨ρ, I, h, ts, r, hr, p, e, g⟩
    match ts, p, e with
    | [.int i, .int j], p, e =>
      obtain ⟨v, w, rfl, p1, q1⟩ := pks2 p
      cases (show v = .int i from p1)
      cases (show w = .int j from q1)
      cases e
      exact ⟨i, j, rfl, g.v hr rfl⟩
  | tuple =>
    refine CallR.imp call_tuple_of ?_
    rintro vs H Q ⟨ρ, I, h, ts, r, hr, p, e, g⟩
    match ts, p, e with
    | [.lst l], p, e =>
      obtain ⟨v, rfl, p1⟩ := pks1 p
      obtain ⟨a, vs, rfl, s, w⟩ := p1
      cases e
      exact ⟨a, vs, rfl, .inl ⟨SqL.of s, fun p hp => g.tup hr hp w⟩⟩
    | [.slst l], p, e =>
      obtain ⟨v, rfl, p1⟩ := pks1 p
      obtain ⟨a, vs, rfl, s, w⟩ := p1
      cases e
      exact ⟨a, vs, rfl, .inl ⟨seq_of s, fun p hp => g.tup hr hp w⟩⟩
    | [.tup l], p, e =>
      obtain ⟨v, rfl, p1⟩ := pks1 p
      obtain ⟨a, vs, rfl, s, w⟩ := p1
      cases e
      exact ⟨a, vs, rfl, .inr ⟨seqT_of s, g.same hr s w⟩⟩
  | list =>
    refine CallR.imp call_list_of ?_
    rintro vs H Q ⟨ρ, I, h, ts, r, hr, p, e, g⟩
    match ts, p, e with
    | [.lst l], p, e =>
      obtain ⟨v, rfl, p1⟩ := pks1 p
      obtain ⟨a, vs, rfl, s, w⟩ := p1
      cases e
      exact ⟨a, vs, rfl, .inl (SqL.of s), fun p hp => g.al hr hp w⟩
    | [.slst l], p, e =>
      obtain ⟨v, rfl, p1⟩ := pks1 p
      obtain ⟨a, vs, rfl, s, w⟩ := p1
      cases e
      exact ⟨a, vs, rfl, .inl (seq_of s), fun p hp => g.al hr hp w⟩
    | [.tup l], p, e =>
      obtain ⟨v, rfl, p1⟩ := pks1 p
      obtain ⟨a, vs, rfl, s, w⟩ := p1
      cases e
      exact ⟨a, vs, rfl, .inr (seqT_of s), fun p hp => g.al hr hp w⟩
end
end VY
namespace VY
open PySem PySem.Spec
open PyProof.Rows hiding St
open L2

/-- the names of the text: defs, globals by number -/
structure Nms where
  n : Nat
  fn : Nat → Str
  gl : Nat → Str
def plainN (x : Str) : Bool := !(x == ("__debug__" : Str)) && !(x == ("__classdict__" : Str))
def visB (sc : Scope) (x : Str) : Bool := match sc.names.lookup x with
  | some .local => true | some .cell => true | some .free => true | _ => false
def locB (sc : Scope) (x : Str) : Bool := match sc.names.lookup x with
  | some .local => true | some .cell => true | _ => false
def glbB (sc : Scope) (x : Str) : Bool := match sc.names.lookup x with
  | some .globalImplicit => plainN x | _ => false
def notStar : Expr → Bool
  | .Starred .. => false | _ => true
def notSet : Expr → Bool
  | .Set .. => false | _ => true
def notSlice : Expr → Bool
  | .Slice .. => false | _ => true
/-- an expression whose test is its value's truth -/
def plainT : Expr → Bool
  | .UnaryOp .. => false | .BoolOp .. => false | .IfExp .. => false | .Compare .. => false | _ => true
def mC : CT → Const → Bool
  | .non, .none => true
  | .bl b, .bool c => b == c
  | .int i, .int j => decide (i = j)
  | .str s, .str z => decide (s = z)
  | _, _ => false
mutual
def ownOf (nm : List Str) : Tg → List (Str × Nat)
  | .nm i => [(nm.getD i Str.empty, i)]
  | .tp l => ownOfs nm l
def ownOfs (nm : List Str) : List Tg → List (Str × Nat)
  | [] => []
  | g :: l => ownOf nm g ++ ownOfs nm l
end
mutual
def mTg (sc : Scope) (nm : List Str) : Tg → Expr → Bool
  | .nm i, .Name x _ => decide (nm[i]? = some x) && locB sc x
  | .tp l, .Tuple es _ _ => mTgs sc nm l es
  | _, _ => false
def mTgs (sc : Scope) (nm : List Str) : List Tg → List Expr → Bool
  | [], [] => true
  | g :: l, e :: es => notStar e && mTg sc nm g e && mTgs sc nm l es
  | _, _ => false
end
variable (N : Nms) (nm : List Str)
mutual
def mE (sc : Scope) : E → Expr → Bool
  | .c k, e => match e with
    | .Constant c _ _ => mC k c
    | _ => false
  | .var i, e => match e with
    | .Name x _ => decide (nm[i]? = some x) && visB sc x && plainN x
    | _ => false
  | .gl g, e => match e with
    | .Name x _ => decide (x = N.gl g) && glbB sc x
    | _ => false
  | .bin op a b, e => match e with
    | .BinOp l o r _ => decide (o = op) && mE sc a l && mE sc b r
    | _ => false
  | .neg a, e => match e with
    | .UnaryOp .USub x _ => mE sc a x
    | _ => false
  | .not a, e => match e with
    | .UnaryOp .Not x _ => mE sc a x
    | _ => false
  | .bop op es, e => match e with
    | .BoolOp o vs _ => decide (o = op) && mEs sc es vs
    | _ => false
  | .cmp op a b, e => match e with
    | .Compare l ops rs _ => (match ops, rs with
      | [o], [r] => decide (o = op) && mE sc a l && mE sc b r && notSet r
      | _, _ => false)
    | _ => false
  | .ch op op' a b c, e => match e with
    | .Compare l ops rs _ => (match ops, rs with
      | [o, o'], [r, r'] => decide (o = op) && decide (o' = op') && mE sc a l && mE sc b r && mE sc c r' && notSet r'
      | _, _ => false)
    | _ => false
  | .ife c a b, e => match e with
    | .IfExp t x y _ => mCd sc c t && mE sc a x && mE sc b y
    | _ => false
  | .tup es, e => match e with
    | .Tuple xs _ _ => mEs sc es xs && xs.all notStar
    | _ => false
  | .lst es, e => match e with
    | .List xs _ => mEs sc es xs && xs.all notStar
    | _ => false
  | .ix a b, e => match e with
    | .Subscript x i _ => mE sc a x && mE sc b i && notSlice i
    | _ => false
  | .sl a lo hi, e => match e with
    | .Subscript x i _ => (match i with
      | .Slice l u none _ => mE sc a x && mO sc lo l && mO sc hi u
      | _ => false)
    | _ => false
  | .call f es, e => match e with
    | .Call (.Name x _) xs [] _ => decide (f < N.n) && decide (x = N.fn f) && glbB sc x && mEs sc es xs && xs.all notStar
    | _ => false
  | .blt f es, e => match e with
    | .Call (.Name x _) xs [] _ => decide (x = f.name) && glbB sc x && mEs sc es xs && xs.all notStar && !xs.isEmpty
    | _ => false
  | .lc elt tg it cond, e => match e with
    | .ListComp el gs scope _ => (match gs with
      | [⟨t, iter, ifs, a⟩] => decide (a = 0) && blkC nm sc scope (ownOf nm tg) && mTg scope nm tg t && mIt sc it iter && notSet iter && mE (relS scope sc) elt el &&
          (match ifs with
          | [] => (match cond with | .yes => true | _ => false)
          | [c] => (match cond with | .yes => false | _ => mCd (relS scope sc) cond c)
          | _ => false)
      | _ => false)
    | _ => false
def mO (sc : Scope) : O → Option Expr → Bool
  | .no, none => true
  | .at e, some x => mE sc e x
  | _, _ => false
def mIt (sc : Scope) : It → Expr → Bool
  | .e x, e => mE sc x e && notSet e
  | .r1 a, e => match e with
    | .Call (.Name x _) xs [] _ => (match xs with
      | [y] => decide (x = "range") && glbB sc x && mE sc a y && notStar y
      | _ => false)
    | _ => false
  | .r2 a b, e => match e with
    | .Call (.Name x _) xs [] _ => (match xs with
      | [y, z] => decide (x = "range") && glbB sc x && mE sc a y && mE sc b z && notStar y && notStar z
      | _ => false)
    | _ => false
def mCd (sc : Scope) : C → Expr → Bool
  | .yes, _ => false
  | .t e, x => (match e with
    | .cmp .. => mE sc e x
    | .ch .. => mE sc e x
    | _ => mE sc e x && plainT x)
  | .not c, x => match x with
    | .UnaryOp .Not y _ => mCd sc c y
    | _ => false
  | .bop op cs, x => match x with
    | .BoolOp o vs _ => decide (o = op) && mCds sc cs vs
    | _ => false
def mCds (sc : Scope) : List C → List Expr → Bool
  | [], [] => true
  | c :: cs, x :: xs => mCd sc c x && mCds sc cs xs
  | _, _ => false
def mEs (sc : Scope) : List E → List Expr → Bool
  | [], [] => true
  | e :: es, x :: xs => mE sc e x && mEs sc es xs
  | _, _ => false
end
end VY
namespace VY
open PySem PySem.Spec
open PyProof.Rows hiding St
open L2

/-- a def's promise: what the interpreter's call does -/
def spD (K : PySem.W.Frag) (mg : Str → Option Value) (call : List T → Hs → Out R) (n : Nat) : Sp := fun vs H Q E => vs.length = n ∧ ∃ ρ I h ts, HR K mg ρ I h H ∧ Reps K mg ρ I H vs ts ∧
  Nx K mg (fun cls d _ H' => E cls d H') [] ρ I h H (call ts h) fun r h' ρ' I' H' => ∀ v, RO K mg ρ' I' h' H' H [] [] v r → Q v H'
/-- what the context gives -/
structure Gd (X : Cx) (N : Nms) (Γ : Ctx) (k : Nat) (W : WX) : Prop where
  calm : X.calm = true
  room : Room k X.A
  nd : X.N.Nodup
  gl : ∀ x t, Γ.gv x = some t → ∃ v u, (X.mg (N.gl x) = some u ∨ (X.mg (N.gl x) = none ∧ bootBuiltins (N.gl x) = some u ∧ N.gl x ≠ "__name__")) ∧ RelV v u ∧ ∀ ρ I H, Rep X.K X.mg ρ I H v t
  fn : ∀ f, f < N.n → ∃ (a : Addr) (fd : FuncData) (ps : List Str), X.mg (N.fn f) = some (.ref a) ∧ PySem.W.keepIn X.K (.ref a) = true ∧ Binds X.K fd ps [] ∧
    FnOk X.prog X.w X.K X.mg X.base (CX X.prog X.w) k a fd ps (spD X.K X.mg (Γ.call f) ps.length) ∧ ∀ ts h, Γ.call f ts h ≠ .bad → ts.length = ps.length
  bl : ∀ b : Bf, X.mg b.name = none
  rg : X.mg "range" = none
  tk : Takes X W
theorem star_eq {e : Expr} {es : List Expr} {env : Env} (h : notStar e = true) : starEach (e :: es) env = (false, eval e env) :: starEach es env := by
  cases e <;> first | rfl | cases h
theorem star_any {env : Env} {pos : Pos} : ∀ {es : List Expr}, es.all notStar = true → (backTo pos (starEach es env)).any (·.1) = false
  | [], _ => rfl
  | e :: es, h => by
    rw [List.all_cons] at h
    rw [star_eq (and_tt h).1]
    show (false || (backTo pos (starEach es env)).any (·.1)) = false
    rw [star_any (and_tt h).2]
    rfl
theorem plain_ix {b : Expr} (h : notSlice b = true) : PlainIx b := fun o i => by cases b <;> first | rfl | cases h
theorem not_marks {op : CmpOp} {b : Expr} (h : notSet b = true) : behindInMarks op b = false := by cases b <;> first | rfl | cases h
theorem not_folded {e : Expr} {env : Env} (h : notSet e = true) : ∀ x, foldedSetIterable e env x = pure x := fun x => by cases e <;> first | rfl | cases h
theorem plain_true {e : Expr} {env : Env} (h : plainT e = true) : ∀ whole, isTrue e env whole = (do let v ← whole; standAt e.pos; holding [v] (truthy v)) := fun whole => by cases e <;> first | rfl | cases h
theorem plain_dbg {x : Str} (h : plainN x = true) : (x == ("__debug__" : Str)) = false ∧ (x == ("__classdict__" : Str)) = false := by
  have q := and_tt h
  exact ⟨by simpa using q.1, by simpa using q.2⟩
theorem vis_of {sc : Scope} {x : Str} (h : visB sc x = true) : Vis sc x := by
  unfold visB at h
  split at h
  · exact .inl (by assumption)
  · exact .inr (.inl (by assumption))
  · exact .inr (.inr (by assumption))
  · cases h
theorem loc_of {sc : Scope} {x : Str} (h : locB sc x = true) : Loc sc x := by
  unfold locB at h
  split at h
  · exact .inl (by assumption)
  · exact .inr (by assumption)
  · cases h
theorem glb_of {X : Cx} {x : Str} (h : glbB X.env.scope x = true) : Gl X x ∧ plainN x = true := by
  unfold glbB at h
  split at h
  · exact ⟨by assumption, h⟩
  · cases h
section
variable {X : Cx} {N : Nms} {Γ : Ctx} {k : Nat} {W : WX}
theorem Gd.blk (G : Gd X N Γ k W) (s : Shared) (H : Hp) (scope : Scope) (cenv : Env) (fp : List Addr) : Gd (X.blk s H scope cenv fp) N Γ k (fun _ _ _ _ => False) :=
  ⟨G.calm, G.room, G.nd, G.gl, G.fn, G.bl, G.rg, fun _ _ ⟨_, _, _, _, _, _, _, _, _, _, _, _, _, _, _, _, w⟩ => w⟩
theorem s_c {k' : CT} {c : Const} {j : Nat} {pos : Pos} (m : mC k' c = true) : PE X (.Constant c j pos) (tD X.K X.mg W (evE Γ (.c k'))) := by
  cases k' <;> cases c <;> try cases m
  · exact PE.imp pe_non fun σ H Q ⟨ρ, I, σT, h, hr, sr, n⟩ => n ρ I H .refl hr _ rfl
  · rename_i b c
    have e : b = c := by simpa [mC] using m
    subst e
    exact PE.imp pe_bl fun σ H Q ⟨ρ, I, σT, h, hr, sr, n⟩ => n ρ I H .refl hr _ rfl
  · rename_i b c
    have e : b = c := by simpa [mC] using m
    subst e
    exact PE.imp pe_int fun σ H Q ⟨ρ, I, σT, h, hr, sr, n⟩ => n ρ I H .refl hr _ rfl
  · rename_i b c
    have e : b = c := by simpa [mC] using m
    subst e
    exact PE.imp pe_str fun σ H Q ⟨ρ, I, σT, h, hr, sr, n⟩ => n ρ I H .refl hr _ rfl
theorem s_var {i : Nat} {x : Str} {pos : Pos} (hi : X.N[i]? = some x) (hv : visB X.env.scope x = true) (hp : plainN x = true) : PE X (.Name x pos) (tD X.K X.mg W (evE Γ (.var i))) := by
  refine PE.imp (pe_var hi (vis_of hv) (plain_dbg hp).1 (plain_dbg hp).2) ?_
  rintro σ H Q ⟨ρ, I, σT, h, hr, sr, n⟩
  rw [evE] at n
  split at n
  · rename_i t e
    obtain ⟨v, q, p⟩ := sr.vs i t e
    exact ⟨v, q, n ρ I H .refl hr v p⟩
  · rename_i l e
    obtain ⟨a, vs, q, _⟩ := sr.als i l e
    exact ⟨.ref a, q, n ρ I H .refl hr _ ⟨q, l, e⟩⟩
  · exact n.elim
theorem s_gl (G : Gd X N Γ k W) {g : Nat} {x : Str} {pos : Pos} (e : x = N.gl g) (hx : glbB X.env.scope x = true) : PE X (.Name x pos) (tD X.K X.mg W (evE Γ (.gl g))) := by
  subst e
  obtain ⟨hg, hp⟩ := glb_of hx
  cases z : Γ.gv g with
  | none =>
    refine ⟨fun pins s σ H Q I hw => ?_⟩
    obtain ⟨ρ, I', σT, h, hr, sr, n⟩ := hw
    rw [evE, z] at n
    exact n.elim
  | some t =>
    obtain ⟨v, u, hm, r, rep⟩ := G.gl g t z
    have fin : ∀ σ H Q, tD X.K X.mg W (evE Γ (.gl g)) σ H Q → tC v σ H Q := by
      rintro σ H Q ⟨ρ, I, σT, h, hr, sr, n⟩
      rw [evE, z] at n
      exact n ρ I H .refl hr v (rep ρ I H)
    rcases hm with hm | ⟨hm, hb, hn⟩
    · exact PE.imp (pe_glob hg hm r (plain_dbg hp).1) fin
    · exact PE.imp (pe_bltn hg hm hb r hn (plain_dbg hp).1) fin
section
variable {a b c : E} {pa pb pc : Expr} {pos : Pos}
theorem s_bin (op : Operator) (ha : PE X pa (tD X.K X.mg W (evE Γ a))) (hb : PE X pb (tD X.K X.mg W (evE Γ b))) : PE X (.BinOp pa op pb pos) (tD X.K X.mg W (evE Γ (.bin op a b))) := by
  refine PE.imp (pe_op (op_sound (K := X.K) (mg := X.mg) op) ha hb) ?_
  rintro σ H Q ⟨ρ, I, σT, h, hr, sr, n⟩
  rw [evE] at n
  refine ⟨ρ, I, σT, h, hr, sr, n.bind.imp fun x h1 ρ1 I1 H1 x1 r1 n1 v o1 => ?_⟩
  refine ⟨ρ1, I1, σT, h1, r1, sr.ext hr x1, n1.bind.imp fun y h2 ρ2 I2 H2 x2 r2 n2 u o2 => ?_⟩
  have s2 := (sr.ext hr x1).ext r1 x2
  unfold opL at n2
  split at n2
  · rename_i t w e1 e2
    obtain ⟨r, er, g⟩ := n2.lift
    exact ⟨ρ2, I2, h2, t, w, r, r2, (o1.ext r1 x2).pk s2 e1, o2.pk s2 e2, er, fun z H' ρ' I' x' r' o' => g ρ' I' H' x' r' z (o'.any.back fun a d => x2.dom a (x1.dom a d))⟩
  · exact n2.elim
theorem s_neg (ha : PE X pa (tD X.K X.mg W (evE Γ a))) : PE X (.UnaryOp .USub pa pos) (tD X.K X.mg W (evE Γ (.neg a))) := by
  refine PE.imp (pe_un un_neg ha) ?_
  rintro σ H Q ⟨ρ, I, σT, h, hr, sr, n⟩
  rw [evE] at n
  refine ⟨ρ, I, σT, h, hr, sr, n.bind.imp fun x h1 ρ1 I1 H1 x1 r1 n1 v o1 => ?_⟩
  split at n1
  · rename_i i
    exact ⟨i, o1, n1 ρ1 I1 H1 .refl r1 _ rfl⟩
  · exact n1.elim
theorem tru_n {x : R} {σT : Slots} {σ : St} {ρ : List Addr} {I : Addr → Prop} {h : Hs} {H H0 : Hp} {v : V} {kk : Bool → Hs → List Addr → (Addr → Prop) → Hp → Prop} (n : Nx X.K X.mg W σ ρ I h H (truL σT x h) kk)
    (o : RO X.K X.mg ρ I h H H0 σT σ v x) (sr : SR X.K X.mg ρ I h H σT σ) : ∃ b, TruV X.K v H b ∧ Nx X.K X.mg W σ ρ I h H (.ok b h) kk := by
  unfold truL at n
  split at n
  · rename_i t e
    obtain ⟨b, eb, g⟩ := n.lift
    exact ⟨b, tru_v (o.pk sr e) eb, g⟩
  · exact n.elim
theorem s_not (ha : PE X pa (tD X.K X.mg W (evE Γ a))) : PE X (.UnaryOp .Not pa pos) (tD X.K X.mg W (evE Γ (.not a))) := by
  refine PE.imp (pe_notT ha) ?_
  rintro σ H Q ⟨ρ, I, σT, h, hr, sr, n⟩
  rw [evE] at n
  refine ⟨ρ, I, σT, h, hr, sr, n.bind.imp fun x h1 ρ1 I1 H1 x1 r1 n1 v o1 => ?_⟩
  obtain ⟨b, tv, n2⟩ := tru_n n1.bind o1 (sr.ext hr x1)
  exact ⟨b, tv, n2 ρ1 I1 H1 .refl r1 ρ1 I1 H1 .refl r1 _ rfl⟩
theorem s_cmp (G : Gd X N Γ k W) (op : CmpOp) (ha : PE X pa (tD X.K X.mg W (evE Γ a))) (hb : PE X pb (tD X.K X.mg W (evE Γ b))) {σ : St} {H : Hp} {Q : VK} (q : tD X.K X.mg W (evE Γ (.cmp op a b)) σ H Q) :
    tOp (rCmp X.K X.mg op) (tD X.K X.mg W (evE Γ a)) (tD X.K X.mg W (evE Γ b)) σ H fun v H' => (∃ k, v = .bl k) ∧ Q v H' := by
  obtain ⟨ρ, I, σT, h, hr, sr, n⟩ := q
  rw [evE] at n
  refine ⟨ρ, I, σT, h, hr, sr, n.bind.imp fun x h1 ρ1 I1 H1 x1 r1 n1 v o1 => ?_⟩
  refine ⟨ρ1, I1, σT, h1, r1, sr.ext hr x1, n1.bind.imp fun y h2 ρ2 I2 H2 x2 r2 n2 u o2 => ?_⟩
  have s2 := (sr.ext hr x1).ext r1 x2
  have n3 := n2.bind
  unfold cmpL at n3
  split at n3
  · rename_i t w e1 e2
    obtain ⟨r, er, g⟩ := n3.lift
    exact ⟨ρ2, I2, h2, t, w, r, r2, (o1.ext r1 x2).pk s2 e1, o2.pk s2 e2, er, ⟨r, rfl⟩, g ρ2 I2 H2 .refl r2 ρ2 I2 H2 .refl r2 _ rfl⟩
  · exact n3.elim
theorem cmp_n {op : CmpOp} {x y : R} {σT : Slots} {σ : St} {ρ : List Addr} {I : Addr → Prop} {h : Hs} {H H0 H0' : Hp} {v u : V} {kk : Bool → Hs → List Addr → (Addr → Prop) → Hp → Prop} (n : Nx X.K X.mg W σ ρ I h H (cmpL σT op x y h) kk)
    (o1 : RO X.K X.mg ρ I h H H0 σT σ v x) (o2 : RO X.K X.mg ρ I h H H0' σT σ u y) (sr : SR X.K X.mg ρ I h H σT σ) : ∃ t w r, Pk X.K X.mg ρ I H v t ∧ Pk X.K X.mg ρ I H u w ∧ cmpR op t w = some r ∧ Nx X.K X.mg W σ ρ I h H (.ok r h) kk := by
  unfold cmpL at n
  split at n
  · rename_i t w e1 e2
    obtain ⟨r, er, g⟩ := n.lift
    exact ⟨t, w, r, o1.pk sr e1, o2.pk sr e2, er, g⟩
  · exact n.elim
theorem Gd.hu (G : Gd X N Γ k W) : X.A.units + 65 < cLine := by have := G.room.un; omega
theorem s_ch (G : Gd X N Γ k W) (op op' : CmpOp) {σ : St} {H : Hp} {Q : VK} (q : tD X.K X.mg W (evE Γ (.ch op op' a b c)) σ H Q) :
    tChain (rCmp X.K X.mg op) (rCmp X.K X.mg op') (tD X.K X.mg W (evE Γ a)) (tD X.K X.mg W (evE Γ b)) (tD X.K X.mg W (evE Γ c)) σ H fun v H' => (∃ k, v = .bl k) ∧ Q v H' := by
  obtain ⟨ρ, I, σT, h, hr, sr, n⟩ := q
  rw [evE] at n
  refine ⟨ρ, I, σT, h, hr, sr, n.bind.imp fun x h1 ρ1 I1 H1 x1 r1 n1 v o1 => ?_⟩
  refine ⟨ρ1, I1, σT, h1, r1, sr.ext hr x1, n1.bind.imp fun y h2 ρ2 I2 H2 x2 r2 n2 u o2 => ?_⟩
  have s2 := (sr.ext hr x1).ext r1 x2
  obtain ⟨t, w, r, p1, p2, er, g⟩ := cmp_n n2.bind (o1.ext r1 x2) o2 s2
  refine ⟨ρ2, I2, h2, t, w, r, r2, p1, p2, er, r, rfl, ?_⟩
  have n4 := g ρ2 I2 H2 .refl r2
  cases r with
  | false => exact ⟨⟨false, rfl⟩, n4 ρ2 I2 H2 .refl r2 _ rfl⟩
  | true =>
    rw [if_pos rfl] at n4
    refine ⟨ρ2, I2, σT, h2, r2, s2, n4.bind.imp fun z h4 ρ4 I4 H4 x4 r4 n6 uz o4 => ?_⟩
    have s4 := s2.ext r2 x4
    obtain ⟨t', w', r', p1', p2', er', g'⟩ := cmp_n n6.bind (o2.ext r2 x4) o4 s4
    exact ⟨ρ4, I4, h4, t', w', r', r4, p1', p2', er', ⟨r', rfl⟩, g' ρ4 I4 H4 .refl r4 ρ4 I4 H4 .refl r4 _ rfl⟩
theorem s_ix (ha : PE X pa (tD X.K X.mg W (evE Γ a))) (hb : PE X pb (tD X.K X.mg W (evE Γ b))) (hs : notSlice pb = true) : PE X (.Subscript pa pb pos) (tD X.K X.mg W (evE Γ (.ix a b))) := by
  refine PE.imp (pe_ix (ix_sound (mg := X.mg) rfl) ha hb (plain_ix hs)) ?_
  rintro σ H Q ⟨ρ, I, σT, h, hr, sr, n⟩
  rw [evE] at n
  refine ⟨ρ, I, σT, h, hr, sr, n.bind.imp fun x h1 ρ1 I1 H1 x1 r1 n1 v o1 => ?_⟩
  refine ⟨ρ1, I1, σT, h1, r1, sr.ext hr x1, n1.bind.imp fun y h2 ρ2 I2 H2 x2 r2 n2 u o2 => ?_⟩
  have s2 := (sr.ext hr x1).ext r1 x2
  unfold ixL at n2
  split at n2
  · rename_i m i e1
    split at n2
    · rename_i l el
      obtain ⟨r, er, g⟩ := n2.lift
      cases z : atI l i with
      | none => rw [z] at er; cases er
      | some t =>
        rw [z] at er
        cases er
        exact ⟨ρ2, I2, h2, .ref m, .int i, t, r2, (o1.ext r1 x2).pk s2 e1, o2, .inl ⟨m, l, rfl, el, i, rfl, z⟩, fun w rw' => g ρ2 I2 H2 .refl r2 w rw'⟩
    · exact n2.elim
  · rename_i t w _ e1
    obtain ⟨r, er, g⟩ := n2.lift
    cases z : ixR t w with
    | none => rw [z] at er; cases er
    | some t' =>
      rw [z] at er
      cases er
      exact ⟨ρ2, I2, h2, t, w, t', r2, (o1.ext r1 x2).pk s2 e1, o2, .inr z, fun w rw' => g ρ2 I2 H2 .refl r2 w rw'⟩
  · exact n2.elim
end
end
end VY
namespace VY
open PySem PySem.Spec
open PyProof.Rows hiding St
open L2
section
variable {X : Cx} {N : Nms} {Γ : Ctx} {k : Nat} {W : WX} {a b c : E} {pa pb pc : Expr} {pos : Pos} {es : List E} {ps : List Expr}
theorem s_es0 : PA X [] (tEs X.K X.mg W (evEs Γ [])) := PA.imp pa_nil fun σ H Q ⟨ρ, I, σT, h, hr, sr, n⟩ => n ρ I H .refl hr [] trivial
theorem s_es1 (ha : PE X pa (tD X.K X.mg W (evE Γ a))) (hs : PA X ps (tEs X.K X.mg W (evEs Γ es))) (m : notStar pa = true) : PA X (pa :: ps) (tEs X.K X.mg W (evEs Γ (a :: es))) := by
  refine PA.imp (pa_cons ha hs (star_eq m)) ?_
  rintro σ H Q ⟨ρ, I, σT, h, hr, sr, n⟩
  rw [evEs] at n
  refine ⟨ρ, I, σT, h, hr, sr, n.bind.imp' fun x h1 ρ1 I1 H1 x1 r1 n0 v o1 => ?_⟩
  cases e : frz x with
  | none => have n1 := n0 ρ1 I1 H1 x1 r1; rw [e] at n1; exact n1.elim
  | some t =>
    obtain ⟨I2, x2, r2, q2⟩ := o1.keep x1 r1 e
    have n1 := n0 ρ1 I2 H1 x2 r2
    rw [e] at n1
    exact ⟨ρ1, I2, σT, h1, r2, sr.ext hr x2, n1.bind.imp fun ts h' ρ' I' H' x' r' n' vs q => n' ρ' I' H' .refl r' (v :: vs) ⟨q2.mono (x'.kp r2), q⟩⟩
theorem s_ps0 : PA X [] (tPs X.K X.mg W (evPs Γ [])) := PA.imp pa_nil fun σ H Q ⟨ρ, I, σT, h, hr, sr, n⟩ => n ρ I H .refl hr [] trivial
theorem s_ps1 (ha : PE X pa (tD X.K X.mg W (evE Γ a))) (hs : PA X ps (tPs X.K X.mg W (evPs Γ es))) (m : notStar pa = true) : PA X (pa :: ps) (tPs X.K X.mg W (evPs Γ (a :: es))) := by
  refine PA.imp (pa_cons ha hs (star_eq m)) ?_
  rintro σ H Q ⟨ρ, I, σT, h, hr, sr, n⟩
  rw [evPs] at n
  refine ⟨ρ, I, σT, h, hr, sr, n.bind.imp fun x h1 ρ1 I1 H1 x1 r1 n1 v o1 => ?_⟩
  cases e : peek σT x with
  | none => rw [e] at n1; exact n1.elim
  | some t =>
    rw [e] at n1
    have s1 := sr.ext hr x1
    exact ⟨ρ1, I1, σT, h1, r1, s1, n1.bind.imp fun ts h' ρ' I' H' x' r' n' vs q => n' ρ' I' H' .refl r' (v :: vs) ⟨(o1.ext r1 x').pk (s1.ext r1 x') e, q⟩⟩
theorem s_tup {j : Nat} (hs : PA X ps (tEs X.K X.mg W (evEs Γ es))) : PE X (.Tuple ps j pos) (tD X.K X.mg W (evE Γ (.tup es))) := by
  refine PE.imp (pe_tup hs) ?_
  rintro σ H Q ⟨ρ, I, σT, h, hr, sr, n⟩
  rw [evE] at n
  refine ⟨ρ, I, σT, h, hr, sr, n.bind.imp fun ts h1 ρ1 I1 H1 x1 r1 n1 vs q => ?_⟩
  split at n1
  · rename_i c
    exact ⟨by rw [q.length, sizeLine_eq]; exact c, fun p hp => n1 ρ1 (Iw I1 p) _ (ext_imm _ hp) (hr_imm _ r1 hp) (.ref p) ⟨p, vs, rfl, .inl ⟨.inr rfl, .of upd_same⟩, q.mono ((ext_imm (h := h1) _ hp).kp r1)⟩⟩
  · exact n1.elim
theorem s_lst (hs : PA X ps (tEs X.K X.mg W (evEs Γ es))) : PE X (.List ps pos) (tD X.K X.mg W (evE Γ (.lst es))) := by
  refine PE.imp (pe_lst hs) ?_
  rintro σ H Q ⟨ρ, I, σT, h, hr, sr, n⟩
  rw [evE] at n
  refine ⟨ρ, I, σT, h, hr, sr, n.bind.imp fun ts h1 ρ1 I1 H1 x1 r1 n1 vs q => ?_⟩
  split at n1
  · rename_i c
    refine ⟨by rw [q.length, sizeLine_eq]; exact c, fun p hp => n1 ρ1 I1 _ (ext_new _ hp) (hr_new _ r1 hp) (.ref p) ⟨p, vs, rfl, ?_, upd_same, fun z => not_none (r1.idom p z) hp, fun z => not_none (live_some r1 z) hp, q.mono (kp_new _ r1 hp)⟩⟩
    cases z : H p with
    | none => rfl
    | some _ => exact (not_none (x1.dom p (isSome_of z)) hp).elim
  · exact n1.elim
theorem s_blt (G : Gd X N Γ k W) {f : Bf} {p : Pos} (hg : glbB X.env.scope f.name = true) (hs : PA X (pa :: ps) (tPs X.K X.mg W (evPs Γ es))) (m : (pa :: ps).all notStar = true) : PE X (.Call (.Name f.name p) (pa :: ps) [] pos) (tD X.K X.mg W (evE Γ (.blt f es))) := by
  obtain ⟨hG, hp⟩ := glb_of hg
  rw [List.all_cons] at m
  have fin : ∀ σ H Q, tD X.K X.mg W (evE Γ (.blt f es)) σ H Q → tCB (rBl X.K X.mg f) (tPs X.K X.mg W (evPs Γ es)) σ H Q := by
    rintro σ H Q ⟨ρ, I, σT, h, hr, sr, n⟩
    rw [evE] at n
    refine ⟨ρ, I, σT, h, hr, sr, n.bind.imp fun ts h1 ρ1 I1 H1 x1 r1 n1 vs q => ?_⟩
    obtain ⟨r, er, g⟩ := n1.lift
    exact ⟨ρ1, I1, h1, ts, r, r1, q, er, fun z H' ρ' I' x' r' o' => g ρ' I' H' x' r' z (o'.any.back fun a d => x1.dom a d)⟩
  have cs := blt_sound (mg := X.mg) G.calm rfl f
  have e1 := (plain_dbg hp).1
  have e2 := star_eq (es := ps) (env := X.env) (and_tt m).1
  have e3 := star_any (env := X.env) (pos := pos) (and_tt m).2
  refine PE.imp ?_ fin
  have hm := G.bl f
  cases f with
  | len => exact pe_callB (id := "len") cs hG hm (by decide +kernel) hs (by decide) e1 e2 e3
  | abs => exact pe_callB (id := "abs") cs hG hm (by decide +kernel) hs (by decide) e1 e2 e3
  | isinstance => exact pe_callB (id := "isinstance") cs hG hm (by decide +kernel) hs (by decide) e1 e2 e3
  | max => exact pe_callB (id := "max") cs hG hm (by decide +kernel) hs (by decide) e1 e2 e3
  | min => exact pe_callB (id := "min") cs hG hm (by decide +kernel) hs (by decide) e1 e2 e3
  | int => exact pe_callTy (T := "int") cs hG hm (by decide +kernel) hs (by decide) e1 e2 e3
  | str => exact pe_callTy (T := "str") cs hG hm (by decide +kernel) hs (by decide) e1 e2 e3
  | tuple => exact pe_callTy (T := "tuple") cs hG hm (by decide +kernel) hs (by decide) e1 e2 e3
  | list => exact pe_callTy (T := "list") cs hG hm (by decide +kernel) hs (by decide) e1 e2 e3
/-- f() -/
theorem pe_call0SD {CX : CXT} {f : Addr} {fd : FuncData} {pn : List Str} {sp : Sp} {dvs : List V} {ds : List Value} {E : St → XK} {x : Str} {p : Pos} (F : FnOk X.prog X.w X.K X.mg X.base CX k f fd pn sp) (hr : Room k X.A) (hg : Gl X x) (hm : X.mg x = some (.ref f)) (hk : PySem.W.keepIn X.K (.ref f) = true)
    (hb : Binds X.K fd pn ds) (hd : Vals dvs ds) (hx : ∀ σ, PassesAt CX X σ (E σ)) (hdb : (x == ("__debug__" : Str)) = false) : PE X (.Call (.Name x p) [] [] pos) (tCallSD sp dvs E tNil) := by
  refine ⟨fun pins s σ H Q I h => ?_⟩
  refine wpAny_Call_Name_kw (ld_glob I hg hm ?_ hdb)
  exact PySem.W.callWith_K0 I.kIn hk (run_fnSD (us := []) (vs := []) F hr hb hd (hx σ) I .nil h)
theorem s_call (G : Gd X N Γ k W) {f : Nat} {x : Str} {p : Pos} (hf : f < N.n) (e : x = N.fn f) (hg : glbB X.env.scope x = true) (hs : PA X ps (tEs X.K X.mg W (evEs Γ es))) (m : ps.all notStar = true) (hn : ps = [] → es = []) : PE X (.Call (.Name x p) ps [] pos) (tD X.K X.mg W (evE Γ (.call f es))) := by
  subst e
  obtain ⟨hG, hp⟩ := glb_of hg
  obtain ⟨a, fd, pn, hm, hk, bd, F, hl⟩ := G.fn f hf
  have fin : ∀ σ H Q, tD X.K X.mg W (evE Γ (.call f es)) σ H Q → tCallSD (spD X.K X.mg (Γ.call f) pn.length) [] (WE W) (tEs X.K X.mg W (evEs Γ es)) σ H Q := by
    rintro σ H Q ⟨ρ, I, σT, h, hr, sr, n⟩
    rw [evE] at n
    refine ⟨ρ, I, σT, h, hr, sr, n.bind.imp fun ts h1 ρ1 I1 H1 x1 r1 n1 vs q => ?_⟩
    show spD X.K X.mg (Γ.call f) pn.length (vs ++ []) H1 Q (WE W σ)
    rw [List.append_nil]
    have nb : Γ.call f ts h1 ≠ .bad := fun z => by rw [z] at n1; exact n1
    refine ⟨by rw [q.length, hl ts h1 nb], ρ1, I1, h1, ts, r1, q, ?_⟩
    cases e : Γ.call f ts h1 with
    | bad => exact (nb e).elim
    | ok r h2 =>
      rw [e] at n1
      exact fun ρ2 I2 H2 x2 r2 v o => n1 ρ2 I2 H2 x2 r2 v (o.any.back fun a d => x1.dom a d)
    | ex y h2 =>
      rw [e] at n1
      exact n1
  have hx : ∀ σ, PassesAt (CX X.prog X.w) X σ (WE W σ) := passAt G.tk
  cases ps with
  | nil =>
    refine PE.imp (pe_call0SD F G.room hG hm hk bd .nil hx (plain_dbg hp).1) fun σ H Q q => ?_
    have q' := fin σ H Q q
    obtain ⟨ρ, I, σT, h, hr, sr, n⟩ := q'
    cases hn rfl
    exact n ρ I H .refl hr [] trivial
  | cons pa ps =>
    rw [List.all_cons] at m
    exact PE.imp (pe_callSD F G.room hG hm hk bd .nil hx hs (plain_dbg hp).1 (star_eq (and_tt m).1) (star_any (and_tt m).2)) fin
def tO (K : PySem.W.Frag) (mg : Str → Option Value) (W : WX) (f : Slots → Hs → Out (Option Int)) : TO := fun σ H Q => ∃ ρ I σT h, HR K mg ρ I h H ∧ SR K mg ρ I h H σT σ ∧
  Nx K mg W σ ρ I h H (f σT h) fun o h' ρ' I' H' => Q o H'
theorem PO.imp {e : Option Expr} {t t' : TO} (p : PO X e t) (f : ∀ σ H Q, t' σ H Q → t σ H Q) : PO X e t' := by
  constructor
  intros
  apply p.run <;> first | assumption | (apply f; assumption)
theorem s_o0 : PO X none (tO X.K X.mg W (evO Γ .no)) := PO.imp po_none fun σ H Q ⟨ρ, I, σT, h, hr, sr, n⟩ => n ρ I H .refl hr
theorem s_o1 (ha : PE X pa (tD X.K X.mg W (evE Γ a))) : PO X (some pa) (tO X.K X.mg W (evO Γ (.at a))) := by
  refine PO.imp (po_some ha) ?_
  rintro σ H Q ⟨ρ, I, σT, h, hr, sr, n⟩
  rw [evO] at n
  refine ⟨ρ, I, σT, h, hr, sr, n.bind.imp fun x h1 ρ1 I1 H1 x1 r1 n1 v o1 => ?_⟩
  split at n1
  · rename_i i
    exact ⟨i, o1, n1 ρ1 I1 H1 .refl r1⟩
  · exact n1.elim
theorem s_sl {lo hi : O} {pl pu : Option Expr} {p2 : Pos} (ha : PE X pa (tD X.K X.mg W (evE Γ a))) (hl : PO X pl (tO X.K X.mg W (evO Γ lo))) (hu : PO X pu (tO X.K X.mg W (evO Γ hi))) : PE X (.Subscript pa (.Slice pl pu none p2) pos) (tD X.K X.mg W (evE Γ (.sl a lo hi))) := by
  refine PE.imp (pe_slice (sl_sound (mg := X.mg) rfl) ha hl hu) ?_
  rintro σ H Q ⟨ρ, I, σT, h, hr, sr, n⟩
  rw [evE] at n
  refine ⟨ρ, I, σT, h, hr, sr, n.bind.imp fun x h1 ρ1 I1 H1 x1 r1 n1 v o1 => ?_⟩
  have s1 := sr.ext hr x1
  refine ⟨ρ1, I1, σT, h1, r1, s1, n1.bind.imp fun l h2 ρ2 I2 H2 x2 r2 n2 => ?_⟩
  have s2 := s1.ext r1 x2
  refine ⟨ρ2, I2, σT, h2, r2, s2, n2.bind.imp fun u h3 ρ3 I3 H3 x3 r3 n3 => ?_⟩
  cases e : peek σT x with
  | none => rw [e] at n3; exact n3.elim
  | some t =>
    rw [e] at n3
    obtain ⟨r, er, g⟩ := n3.lift
    exact ⟨ρ3, I3, h3, t, r, r3, ((o1.ext r1 x2).ext r2 x3).pk (s2.ext r2 x3) e, er, fun z H' ρ' I' x' r' o' => g ρ' I' H' x' r' z (o'.any.back fun a d => x3.dom a (x2.dom a (x1.dom a d)))⟩
theorem s_ife {c : C} (hc : PT X pc (tB X.K X.mg W (evC Γ c))) (ha : PE X pa (tD X.K X.mg W (evE Γ a))) (hb : PE X pb (tD X.K X.mg W (evE Γ b))) : PE X (.IfExp pc pa pb pos) (tD X.K X.mg W (evE Γ (.ife c a b))) := by
  refine PE.imp (pe_ifExp hc ha hb) ?_
  rintro σ H Q ⟨ρ, I, σT, h, hr, sr, n⟩
  rw [evE] at n
  refine ⟨ρ, I, σT, h, hr, sr, n.bind.imp fun k h1 ρ1 I1 H1 x1 r1 n1 => ?_⟩
  have s1 := sr.ext hr x1
  have fin : ∀ e, Nx X.K X.mg W σ ρ1 I1 h1 H1 (evE Γ e σT h1) (fun r h' ρ' I' H' => ∀ v, RO X.K X.mg ρ' I' h' H' H σT σ v r → Q v H') → tD X.K X.mg W (evE Γ e) σ H1 Q := fun e n1 =>
    ⟨ρ1, I1, σT, h1, r1, s1, n1.imp fun r h' ρ' I' H' x' r' n' v o => n' v (o.back x1.dom)⟩
  cases k with
  | true => exact fin a n1
  | false => exact fin b n1
theorem s_b1 {op : BoolOp} (ha : PE X pa (tD X.K X.mg W (evE Γ a))) : PE X (.BoolOp op [pa] pos) (tD X.K X.mg W (evB Γ op [a])) := pe_one ha
theorem s_b2 {op : BoolOp} {e : E} {pe : Expr} (ha : PE X pa (tD X.K X.mg W (evE Γ a))) (hs : PE X (.BoolOp op (pe :: ps) pos) (tD X.K X.mg W (evB Γ op (e :: es)))) : PE X (.BoolOp op (pa :: pe :: ps) pos) (tD X.K X.mg W (evB Γ op (a :: e :: es))) := by
  have core : ∀ σ H Q, tD X.K X.mg W (evB Γ op (a :: e :: es)) σ H Q → tD X.K X.mg W (evE Γ a) σ H fun x H1 => ∃ k, TruV X.K x H1 k ∧ if k == (op == .Or) then Q x H1 else tD X.K X.mg W (evB Γ op (e :: es)) σ H1 Q := by
    rintro σ H Q ⟨ρ, I, σT, h, hr, sr, n⟩
    have n' : Nx X.K X.mg W σ ρ I h H ((evE Γ a σT h).bind fun x h1 => (truL σT x h1).bind fun k h2 => if k == (op == .Or) then .ok x h2 else evB Γ op (e :: es) σT h2) _ := n
    refine ⟨ρ, I, σT, h, hr, sr, n'.bind.imp fun x h1 ρ1 I1 H1 x1 r1 n1 v o1 => ?_⟩
    have s1 := sr.ext hr x1
    obtain ⟨k, tv, n2⟩ := tru_n n1.bind o1 s1
    refine ⟨k, tv, ?_⟩
    have n3 := n2 ρ1 I1 H1 .refl r1
    split
    · rename_i z; simp only [if_pos z] at n3; exact n3 ρ1 I1 H1 .refl r1 v o1
    · rename_i z; simp only [if_neg z] at n3
      exact ⟨ρ1, I1, σT, h1, r1, s1, n3.imp fun r h' ρ' I' H' x' r' n' v o => n' v (o.back x1.dom)⟩
  cases op with
  | And =>
    refine PE.imp (pe_andT ha hs) fun σ H Q q => ?_
    obtain ⟨ρ, I, σT, h, hr, sr, n⟩ := core σ H Q q
    refine ⟨ρ, I, σT, h, hr, sr, n.imp fun r h' ρ' I' H' x' r' n' v o => ?_⟩
    obtain ⟨k, tv, q⟩ := n' v o
    refine ⟨k, tv, ?_⟩
    cases k with
    | true => exact q
    | false => exact q
  | Or =>
    refine PE.imp (pe_orT ha hs) fun σ H Q q => ?_
    obtain ⟨ρ, I, σT, h, hr, sr, n⟩ := core σ H Q q
    refine ⟨ρ, I, σT, h, hr, sr, n.imp fun r h' ρ' I' H' x' r' n' v o => ?_⟩
    obtain ⟨k, tv, q⟩ := n' v o
    refine ⟨k, tv, ?_⟩
    cases k with
    | true => exact q
    | false => exact q
theorem s_t (ha : PE X pa (tD X.K X.mg W (evE Γ a))) (m : plainT pa = true) : PT X pa (tB X.K X.mg W (evC Γ (.t a))) := by
  refine PT.imp (pt_truth ha (plain_true m)) ?_
  rintro σ H Q ⟨ρ, I, σT, h, hr, sr, n⟩
  rw [evC] at n
  refine ⟨ρ, I, σT, h, hr, sr, n.bind.imp fun x h1 ρ1 I1 H1 x1 r1 n1 v o1 => ?_⟩
  obtain ⟨b, tv, n2⟩ := tru_n n1 o1 (sr.ext hr x1)
  exact ⟨b, tv, n2 ρ1 I1 H1 .refl r1⟩
/-- a test that gives a truth -/
theorem t_bl {σ : St} {H : Hp} {Q : Bool → Hp → Prop} {e : E} (q : tB X.K X.mg W (evC Γ (.t e)) σ H Q) : tD X.K X.mg W (evE Γ e) σ H fun v H' => ∀ k, v = .bl k → Q k H' := by
  obtain ⟨ρ, I, σT, h, hr, sr, n⟩ := q
  rw [evC] at n
  refine ⟨ρ, I, σT, h, hr, sr, n.bind.imp fun x h1 ρ1 I1 H1 x1 r1 n1 v o1 k e => ?_⟩
  obtain ⟨b, tv, n2⟩ := tru_n n1 o1 (sr.ext hr x1)
  subst e
  cases (show b = k from tv)
  exact n2 ρ1 I1 H1 .refl r1
theorem s_tcmp (G : Gd X N Γ k W) (op : CmpOp) (ha : PE X pa (tD X.K X.mg W (evE Γ a))) (hb : PE X pb (tD X.K X.mg W (evE Γ b))) (m : notSet pb = true) : PT X (.Compare pa [op] [pb] pos) (tB X.K X.mg W (evC Γ (.t (.cmp op a b)))) := by
  refine PT.imp (pt_cmpR (cmp_sound (mg := X.mg) rfl G.hu op) ha hb (not_marks m)) fun σ H Q q => ?_
  have q2 := s_cmp G op ha hb (t_bl q)
  obtain ⟨ρ, I, σT, h, hr, sr, n⟩ := q2
  refine ⟨ρ, I, σT, h, hr, sr, n.imp fun r h' ρ' I' H' x' r' n' v o => ?_⟩
  obtain ⟨ρ1, I1, σ1, h1, hr1, sr1, n1⟩ := n' v o
  refine ⟨ρ1, I1, σ1, h1, hr1, sr1, n1.imp fun r h' ρ' I' H' x' r' n' v o => ?_⟩
  obtain ⟨ρ2, I2, h2, t, u, k, a1, a2, a3, a4, ⟨k', e⟩, a5⟩ := n' v o
  exact ⟨ρ2, I2, h2, t, u, k, a1, a2, a3, a4, k, rfl, a5 k rfl⟩
theorem chain_imp {r r' : R2} {ta tb tc : TE} {σ : St} {H : Hp} {Q Q' : VK} (ma : ∀ H Q Q', (∀ v H', Q v H' → Q' v H') → ta σ H Q → ta σ H Q') (mb : ∀ H Q Q', (∀ v H', Q v H' → Q' v H') → tb σ H Q → tb σ H Q') (mc : ∀ H Q Q', (∀ v H', Q v H' → Q' v H') → tc σ H Q → tc σ H Q')
    (mr : ∀ x y H Q Q', (∀ v H', Q v H' → Q' v H') → r x y H Q → r x y H Q') (mr' : ∀ x y H Q Q', (∀ v H', Q v H' → Q' v H') → r' x y H Q → r' x y H Q') (f : ∀ v H', Q v H' → Q' v H') (q : tChain r r' ta tb tc σ H Q) : tChain r r' ta tb tc σ H Q' := by
  refine ma _ _ _ (fun x H1 q => mb _ _ _ (fun y H2 q => mr _ _ _ _ _ (fun z H3 q => ?_) q) q) q
  obtain ⟨k, e, q⟩ := q
  refine ⟨k, e, ?_⟩
  cases k with
  | true => exact mc _ _ _ (fun w H4 q => mr' _ _ _ _ _ f q) q
  | false => exact f _ _ q
theorem tD_imp {f : Slots → Hs → Out R} {σ : St} (H : Hp) (Q Q' : VK) (g : ∀ v H', Q v H' → Q' v H') (q : tD X.K X.mg W f σ H Q) : tD X.K X.mg W f σ H Q' := by
  obtain ⟨ρ, I, σT, h, hr, sr, n⟩ := q
  exact ⟨ρ, I, σT, h, hr, sr, n.imp fun r h' ρ' I' H' x' r' n' v o => g _ _ (n' v o)⟩
theorem rCmp_imp {op : CmpOp} (x y : V) (H : Hp) (Q Q' : VK) (g : ∀ v H', Q v H' → Q' v H') (q : rCmp X.K X.mg op x y H Q) : rCmp X.K X.mg op x y H Q' := by
  obtain ⟨ρ2, I2, h2, t, u, k, a1, a2, a3, a4, a5⟩ := q
  exact ⟨ρ2, I2, h2, t, u, k, a1, a2, a3, a4, g _ _ a5⟩
theorem s_tch (G : Gd X N Γ k W) (op op' : CmpOp) (ha : PE X pa (tD X.K X.mg W (evE Γ a))) (hb : PE X pb (tD X.K X.mg W (evE Γ b))) (hc : PE X pc (tD X.K X.mg W (evE Γ c))) (m : notSet pc = true) :
    PT X (.Compare pa [op, op'] [pb, pc] pos) (tB X.K X.mg W (evC Γ (.t (.ch op op' a b c)))) := by
  refine PT.imp (pt_chain (cmp_sound (mg := X.mg) rfl G.hu op) (cmp_sound (mg := X.mg) rfl G.hu op') ha hb hc (show behindInMarks op' pc = false from not_marks m)) fun σ H Q q => ?_
  refine chain_imp tD_imp tD_imp tD_imp rCmp_imp rCmp_imp ?_ (s_ch G op op' (t_bl q))
  rintro v H' ⟨⟨k, rfl⟩, z⟩
  exact ⟨k, rfl, z k rfl⟩
theorem s_tnot {c : C} (hc : PT X pc (tB X.K X.mg W (evC Γ c))) : PT X (.UnaryOp .Not pc pos) (tB X.K X.mg W (evC Γ (.not c))) := by
  refine PT.imp (pt_not hc) ?_
  rintro σ H Q ⟨ρ, I, σT, h, hr, sr, n⟩
  rw [evC] at n
  exact ⟨ρ, I, σT, h, hr, sr, n.bind.imp fun b h' ρ' I' H' x' r' n' => n' ρ' I' H' .refl r'⟩
theorem s_tb1 {op : BoolOp} {c : C} (hc : PT X pc (tB X.K X.mg W (evC Γ c))) : PW X (.BoolOp op [pc] pos) (tB X.K X.mg W (evCs Γ op [c])) := by
  cases op with
  | And => exact pw_and1 hc
  | Or => exact pw_or1 hc
theorem s_tb2 {op : BoolOp} {c d : C} {cs : List C} {pd : Expr} (hc : PT X pc (tB X.K X.mg W (evC Γ c))) (hs : PW X (.BoolOp op (pd :: ps) pos) (tB X.K X.mg W (evCs Γ op (d :: cs)))) : PW X (.BoolOp op (pc :: pd :: ps) pos) (tB X.K X.mg W (evCs Γ op (c :: d :: cs))) := by
  have core : ∀ σ H Q, tB X.K X.mg W (evCs Γ op (c :: d :: cs)) σ H Q → tB X.K X.mg W (evC Γ c) σ H fun k H1 => if k == (op == .Or) then Q k H1 else tB X.K X.mg W (evCs Γ op (d :: cs)) σ H1 Q := by
    rintro σ H Q ⟨ρ, I, σT, h, hr, sr, n⟩
    have n' : Nx X.K X.mg W σ ρ I h H ((evC Γ c σT h).bind fun k h1 => if k == (op == .Or) then .ok k h1 else evCs Γ op (d :: cs) σT h1) _ := n
    refine ⟨ρ, I, σT, h, hr, sr, n'.bind.imp fun k h1 ρ1 I1 H1 x1 r1 n1 => ?_⟩
    by_cases z : (k == (op == BoolOp.Or)) = true
    · simp only [if_pos z] at n1 ⊢; exact n1 ρ1 I1 H1 .refl r1
    · simp only [if_neg z] at n1 ⊢; exact ⟨ρ1, I1, σT, h1, r1, sr.ext hr x1, n1⟩
  cases op with
  | And =>
    refine PW.imp (pw_and hc hs) fun σ H Q q => ?_
    obtain ⟨ρ, I, σT, h, hr, sr, n⟩ := core σ H Q q
    refine ⟨ρ, I, σT, h, hr, sr, n.imp fun k h' ρ' I' H' x' r' n' => ?_⟩
    cases k with
    | true => exact n'
    | false => exact n'
  | Or =>
    refine PW.imp (pw_or hc hs) fun σ H Q q => ?_
    obtain ⟨ρ, I, σT, h, hr, sr, n⟩ := core σ H Q q
    refine ⟨ρ, I, σT, h, hr, sr, n.imp fun k h' ρ' I' H' x' r' n' => ?_⟩
    cases k with
    | true => exact n'
    | false => exact n'
end
end VY
namespace VY
open PySem PySem.Spec
open PyProof.Rows hiding St
open L2
theorem lift_inv {K : PySem.W.Frag} {mg : Str → Option Value} {W : WX} {σ : St} {ρ : List Addr} {I : Addr → Prop} {h h1 : Hs} {H : Hp} {α : Type} {o : Option α} {k : α → Hs → List Addr → (Addr → Prop) → Hp → Prop} (n : Nx K mg W σ ρ I h H (lift o h1) k) :
    ∃ a, o = some a ∧ ∀ ρ' I' H', Ext ρ I h H ρ' I' h1 H' → HR K mg ρ' I' h1 H' → k a h1 ρ' I' H' := by
  cases o with
  | some a => exact ⟨a, rfl, n⟩
  | none => exact n.elim
structure Wk (ts : List T) (Rp : V → T → Prop) (C : Hp → Prop) (J : L2.It) : Prop where
  go : ∀ i H', i < ts.length → C H' → J.go i H'
  yld : ∀ i x H' H'', C H' → i < ts.length → J.yld i H' x H'' → H'' = H' ∧ ∃ t, ts[i]? = some t ∧ Rp x t
  stop : ∀ H', C H' → J.stop ts.length H'
def Stay (own : Bool) (ρ : List Addr) (I : Addr → Prop) (h : Hs) (H : Hp) (C : Hp → Prop) : Prop :=
  if own = true then ∀ ρ2 I2 h2 H2, Ext ρ I h H ρ2 I2 h2 H2 → C H2 else ∀ H2, (∀ a, I a → H2 a = H a) → C H2
def tIt (K : PySem.W.Frag) (mg : Str → Option Value) (W : WX) (own : Bool) (f : Slots → Hs → Out (List T)) : TI := fun σ H Q => ∃ ρ I σT h, HR K mg ρ I h H ∧ SR K mg ρ I h H σT σ ∧
  Nx K mg W σ ρ I h H (f σT h) fun ts h' ρ' I' H' => ∀ (J : L2.It) (C : Hp → Prop), Stay own ρ' I' h' H' C → Wk ts (Rep K mg ρ' I' H') C J → Q J H'
theorem PI.imp {X : Cx} {tg e : Expr} {t t' : TI} (p : PI X tg e t) (f : ∀ σ H Q, t' σ H Q → t σ H Q) : PI X tg e t' := ⟨fun pins s σ H Q I h => p.run pins s σ H Q I (f σ H Q h)⟩
theorem PI.or {X : Cx} {tg e : Expr} {t t' : TI} (p : PI X tg e t) (q : PI X tg e t') : PI X tg e fun σ H Q => t σ H Q ∨ t' σ H Q :=
  ⟨fun pins s σ H Q I h => h.elim (p.run pins s σ H Q I) (q.run pins s σ H Q I)⟩
section
variable {K : PySem.W.Frag} {mg : Str → Option Value} {ρ : List Addr} {I : Addr → Prop} {h : Hs} {H : Hp} {ts : List T} {vs : List V} {a : Addr}
theorem sql_inj {xs ys : List V} (h1 : SqL K H a xs) (h2 : H a = some (.lst ys)) (hK : ∀ o, K.lookup a = some o → H a = none) : xs = ys := by
  rcases h1 with (h1 | ⟨o, h1⟩) | ⟨o, its, n, h1, _⟩
  · rw [h2] at h1; injection h1 with h1; injection h1 with h1; exact h1.symm
  · rw [h2] at h1; injection h1 with h1; cases h1
  · rw [hK o h1] at h2; cases h2
/-- a list walked: as long as it is a list of vs -/
theorem wk_list (q : Reps K mg ρ I H vs ts) : Wk ts (Rep K mg ρ I H) (fun H' => SqL K H' a vs) (Itl K a) where
  go := fun i H' hi c => ⟨vs, vs[i]'(by rw [q.length]; exact hi), c, List.getElem?_eq_getElem _⟩
  yld := fun i x H' H'' c hi y => by
    obtain ⟨e, y⟩ := y
    refine ⟨e, ?_⟩
    obtain ⟨t, e1, r⟩ := q.getV (y vs c)
    exact ⟨t, e1, r⟩
  stop := fun H' c => ⟨vs, c, by rw [q.length]; exact Nat.le_refl _⟩
theorem wk_tup (q : Reps K mg ρ I H vs ts) : Wk ts (Rep K mg ρ I H) (fun H' => SqT K H' a vs) (Itt K a) where
  go := fun i H' hi c => ⟨vs, vs[i]'(by rw [q.length]; exact hi), c, List.getElem?_eq_getElem _⟩
  yld := fun i x H' H'' c hi y => by
    obtain ⟨e, y⟩ := y
    refine ⟨e, ?_⟩
    obtain ⟨t, e1, r⟩ := q.getV (y vs c)
    exact ⟨t, e1, r⟩
  stop := fun H' c => ⟨vs, c, by rw [q.length]; exact Nat.le_refl _⟩
theorem wk_rng {lo : Int} {n : Nat} : Wk ((List.range n).map fun (k : Nat) => T.int (lo + (k : Int))) (Rep K mg ρ I H) (fun _ => True) (Itr lo n) where
  go := fun i H' hi _ => by show i < n; simpa using hi
  yld := fun i x H' H'' _ hi y => by
    obtain ⟨e, rfl⟩ := y
    have hi' : i < n := by simpa using hi
    exact ⟨e, .int (lo + i), by simp [hi'], rfl⟩
  stop := fun H' _ => by show n ≤ _; simp
theorem stay_true (own : Bool) : Stay own ρ I h H fun _ => True := by
  unfold Stay; split
  · exact fun _ _ _ _ _ => trivial
  · exact fun _ _ => trivial
/-- what I holds stays -/
theorem stay_I {own : Bool} {C : Hp → Prop} (r : HR K mg ρ I h H) (c : ∀ H2, (∀ a, I a → H2 a = H a) → C H2) : Stay own ρ I h H C := by
  unfold Stay; split
  · exact fun ρ2 I2 h2 H2 x => c H2 fun a i => x.ikeep r i
  · exact c
theorem stay_L {own : Bool} (r : HR K mg ρ I h H) (s : (I a ∧ Rd H a (.lst vs)) ∨ StL K a vs) : Stay own ρ I h H fun H' => SqL K H' a vs :=
  stay_I r fun H2 k => s.elim (fun u => .inl (Rd.keep (k a u.1) u.2)) .inr
theorem stay_T {own : Bool} (r : HR K mg ρ I h H) (s : (I a ∧ Rd H a (.tup vs)) ∨ StT K a vs) : Stay own ρ I h H fun H' => SqT K H' a vs :=
  stay_I r fun H2 k => s.elim (fun u => .inl (Rd.keep (k a u.1) u.2)) .inr
end
section
variable {X : Cx} {N : Nms} {Γ : Ctx} {k : Nat} {W : WX} {a b c : E} {pa pb pc tg : Expr} {pos : Pos} {es : List E} {ps : List Expr} {own : Bool}
theorem s_ite (ha : PE X pa (tD X.K X.mg W (evE Γ a))) : PI X tg pa (tIt X.K X.mg W own (evIt Γ own (.e a))) := by
  refine PI.imp (PI.or (pi_list ha) (pi_tup ha)) ?_
  rintro σ H Q ⟨ρ, I, σT, h, hr, sr, n⟩
  have n' : Nx X.K X.mg W σ ρ I h H ((evE Γ a σT h).bind fun r h1 => match (if own then peek σT r else frz r) with | some t => lift (itemsT t) h1 | none => .bad) _ := n
  cases e : evE Γ a σT h with
  | bad => rw [e] at n'; exact n'.elim
  | ex y h1 => rw [e] at n'; exact .inl ⟨ρ, I, σT, h, hr, sr, by rw [e]; exact n'⟩
  | ok r h1 =>
    rw [e, Out.bind_ok] at n'
    cases z : (if own then peek σT r else frz r) with
    | none => rw [z] at n'; exact n'.elim
    | some t =>
      rw [z] at n'
      have n'' : Nx X.K X.mg W σ ρ I h H (lift (itemsT t) h1) _ := n'
      obtain ⟨ts, et, g⟩ := lift_inv n''
      -- by what is walked
      have keep : ∀ (v : V) ρ1 I1 H1, Ext ρ I h H ρ1 I1 h1 H1 → HR X.K X.mg ρ1 I1 h1 H1 → RO X.K X.mg ρ1 I1 h1 H1 H σT σ v r →
          ∃ I2, Ext ρ I h H ρ1 I2 h1 H1 ∧ HR X.K X.mg ρ1 I2 h1 H1 ∧ (Rep X.K X.mg ρ1 I2 H1 v t ∨ (own = true ∧ ∃ l a vs, t = .lst l ∧ v = .ref a ∧ H1 a = some (.lst vs) ∧ ¬ Live ρ1 h1 a ∧ Reps X.K X.mg ρ1 I2 H1 vs l)) := by
        intro v ρ1 I1 H1 x1 r1 o
        cases own with
        | false =>
          obtain ⟨I2, x2, r2, q⟩ := o.keep x1 r1 (show frz r = some t from z)
          exact ⟨I2, x2, r2, .inl q⟩
        | true =>
          have z' : peek σT r = some t := z
          cases r with
          | v u => cases z'; exact ⟨I1, x1, r1, .inl o⟩
          | al l =>
            cases z'
            obtain ⟨a, vs, e, _, p, _, nl, w⟩ := o
            exact ⟨I1, x1, r1, .inr ⟨rfl, l, a, vs, rfl, e, p, nl, w⟩⟩
          | bw i =>
            obtain ⟨q, l, y⟩ := o
            simp only [peek, y] at z'
            cases z'
            obtain ⟨a, vs, q', p, _, nl, w⟩ := (sr.ext hr x1).als i l y
            rw [q] at q'
            cases q'
            exact ⟨I1, x1, r1, .inr ⟨rfl, l, a, vs, rfl, rfl, p, nl, w⟩⟩
      cases t with
      | lst l =>
        cases et
        refine .inl ⟨ρ, I, σT, h, hr, sr, ?_⟩
        rw [e]
        intro ρ1 I1 H1 x1 r1 v o
        obtain ⟨I2, x2, r2, q | ⟨ho, l', a, vs, el, e1, p, nl, w⟩⟩ := keep v ρ1 I1 H1 x1 r1 o
        · obtain ⟨a, vs, rfl, i, p, w⟩ := q
          exact ⟨a, rfl, ⟨vs, SqL.of p⟩, g ρ1 I2 H1 x2 r2 _ _ (stay_L r2 (.inl ⟨i, .of p⟩)) (wk_list w)⟩
        · cases el
          subst ho
          subst e1
          exact ⟨a, rfl, ⟨vs, SqL.of p⟩, g ρ1 I2 H1 x2 r2 _ _ (fun ρ3 I3 h3 H3 x3 => SqL.of ((x3.keep a (isSome_of p) nl).trans p)) (wk_list w)⟩
      | slst l =>
        cases et
        refine .inl ⟨ρ, I, σT, h, hr, sr, ?_⟩
        rw [e]
        intro ρ1 I1 H1 x1 r1 v o
        obtain ⟨I2, x2, r2, q | ⟨ho, l', a, vs, el, _⟩⟩ := keep v ρ1 I1 H1 x1 r1 o
        · obtain ⟨a, vs, rfl, s, w⟩ := q
          exact ⟨a, rfl, ⟨vs, seq_of s⟩, g ρ1 I2 H1 x2 r2 _ _ (stay_L r2 s) (wk_list w)⟩
        · cases el
      | tup l =>
        cases et
        refine .inr ⟨ρ, I, σT, h, hr, sr, ?_⟩
        rw [e]
        intro ρ1 I1 H1 x1 r1 v o
        obtain ⟨I2, x2, r2, q | ⟨ho, l', a, vs, el, _⟩⟩ := keep v ρ1 I1 H1 x1 r1 o
        · obtain ⟨a, vs, rfl, s, w⟩ := q
          exact ⟨a, rfl, ⟨vs, seqT_of s⟩, g ρ1 I2 H1 x2 r2 _ _ (stay_T r2 s) (wk_tup w)⟩
        · cases el
      | _ => cases et
theorem rng_inv {lo hi : Int} {ts : List T} (e : rngT lo hi = some ts) : (-(2 ^ 62) ≤ lo ∧ lo < 2 ^ 62 ∧ -(2 ^ 62) ≤ hi ∧ hi < 2 ^ 62) ∧ ts = (List.range (hi - lo).toNat).map fun (k : Nat) => T.int (lo + (k : Int)) := by
  unfold rngT at e
  obtain ⟨c, e⟩ := ite_some e
  exact ⟨c, e.symm⟩
theorem s_itr1 (G : Gd X N Γ k W) {p : Pos} (hg : glbB X.env.scope "range" = true) (ha : PE X pa (tD X.K X.mg W (evE Γ a))) (m : notStar pa = true) : PI X tg (.Call (.Name "range" p) [pa] [] pos) (tIt X.K X.mg W own (evIt Γ own (.r1 a))) := by
  refine PI.imp (pi_range1 (glb_of hg).1 G.rg (pa_cons ha pa_nil (star_eq m)) (star_eq m)) ?_
  rintro σ H Q ⟨ρ, I, σT, h, hr, sr, n⟩
  have n' : Nx X.K X.mg W σ ρ I h H ((evE Γ a σT h).bind fun r h1 => match r with | .v (.int j) => lift (rngT 0 j) h1 | _ => .bad) _ := n
  refine ⟨ρ, I, σT, h, hr, sr, n'.bind.imp fun r h1 ρ1 I1 H1 x1 r1 n1 v o => ?_⟩
  split at n1
  · rename_i j
    obtain ⟨ts, et, g⟩ := n1.lift
    obtain ⟨⟨_, _, c1, c2⟩, rfl⟩ := rng_inv et
    cases (show v = .int j from o)
    refine ⟨j, rfl, c1, c2, ?_⟩
    have e : j.toNat = (j - 0).toNat := by omega
    rw [e]
    exact g ρ1 I1 H1 .refl r1 _ _ (stay_true own) wk_rng
  · exact n1.elim
theorem s_itr2 (G : Gd X N Γ k W) {p : Pos} (hg : glbB X.env.scope "range" = true) (ha : PE X pa (tD X.K X.mg W (evE Γ a))) (hb : PE X pb (tD X.K X.mg W (evE Γ b))) (m : notStar pa = true) (m' : notStar pb = true) :
    PI X tg (.Call (.Name "range" p) [pa, pb] [] pos) (tIt X.K X.mg W own (evIt Γ own (.r2 a b))) := by
  refine PI.imp (pi_range2 (glb_of hg).1 G.rg (pa_cons ha (pa_cons hb pa_nil (star_eq m')) (star_eq m)) (by rw [star_eq m, star_eq m']; rfl) (star_eq m')) ?_
  rintro σ H Q ⟨ρ, I, σT, h, hr, sr, n⟩
  have n' : Nx X.K X.mg W σ ρ I h H ((evE Γ a σT h).bind fun r h1 => (evE Γ b σT h1).bind fun s h2 => match r, s with | .v (.int i), .v (.int j) => lift (rngT i j) h2 | _, _ => .bad) _ := n
  refine ⟨ρ, I, σT, h, hr, sr, n'.bind.imp fun r h1 ρ1 I1 H1 x1 r1 n1 v o => ?_⟩
  refine ⟨ρ1, I1, σT, h1, r1, sr.ext hr x1, n1.bind.imp fun s h2 ρ2 I2 H2 x2 r2 n2 u o2 => ?_⟩
  split at n2
  · rename_i i j
    obtain ⟨ts, et, g⟩ := n2.lift
    obtain ⟨⟨c1, c2, c3, c4⟩, rfl⟩ := rng_inv et
    cases (show v = .int i from o)
    cases (show u = .int j from o2)
    exact ⟨i, j, rfl, ⟨c1, c2, c3, c4⟩, g ρ2 I2 H2 .refl r2 _ _ (stay_true own) wk_rng⟩
  · exact n2.elim
end
end VY
namespace VY
open PySem PySem.Spec
open PyProof.Rows hiding St
open L2
section
variable {K : PySem.W.Frag} {mg : Str → Option Value} {ρ ρ' : List Addr} {I I' : Addr → Prop} {h h' : Hs} {H H' : Hp} {σT : Slots} {σ : St} {W W' : WX}
theorem SR.set (s : SR K mg ρ I h H σT σ) {v : V} {t : T} (q : Rep K mg ρ I H v t) (i : Nat) : SR K mg ρ I h H (σT.set i (some (.v t))) (σ.set i (some v)) where
  len := by rw [List.length_set, List.length_set]; exact s.len
  vs := fun j u e => by
    by_cases c : i = j
    · subst c
      by_cases hi : i < σT.length
      · rw [List.getElem?_set_self hi] at e
        cases e
        exact ⟨v, List.getElem?_set_self (by rw [← s.len]; exact hi), q⟩
      · rw [List.getElem?_eq_none (by rw [List.length_set]; omega)] at e; cases e
    · rw [List.getElem?_set_ne c] at e ⊢
      exact s.vs j u e
  als := fun j l e => by
    by_cases c : i = j
    · subst c
      by_cases hi : i < σT.length
      · rw [List.getElem?_set_self hi] at e; cases e
      · rw [List.getElem?_eq_none (by rw [List.length_set]; omega)] at e; cases e
    · rw [List.getElem?_set_ne c] at e
      obtain ⟨a, vs, q, r⟩ := s.als j l e
      exact ⟨a, vs, by rw [List.getElem?_set_ne c]; exact q, r⟩
  adj := fun j j' l m a e1 e2 e3 e4 => by
    have ne : ∀ {j : Nat} {l : List T}, (σT.set i (some (.v t)))[j]? = some (some (.al l)) → i ≠ j := fun {j l} e c => by
      subst c
      by_cases hi : i < σT.length
      · rw [List.getElem?_set_self hi] at e; cases e
      · rw [List.getElem?_eq_none (by rw [List.length_set]; omega)] at e; cases e
    have n1 := ne e1
    have n2 := ne e2
    rw [List.getElem?_set_ne n1] at e1 e3
    rw [List.getElem?_set_ne n2] at e2 e4
    exact s.adj j j' l m a e1 e2 e3 e4
theorem SR.clr (s : SR K mg ρ I h H σT σ) (i : Nat) (o : Option V) : SR K mg ρ I h H (σT.set i none) (σ.set i o) where
  len := by rw [List.length_set, List.length_set]; exact s.len
  vs := fun j u e => by
    by_cases c : i = j
    · subst c
      by_cases hi : i < σT.length
      · rw [List.getElem?_set_self hi] at e; cases e
      · rw [List.getElem?_eq_none (by rw [List.length_set]; omega)] at e; cases e
    · rw [List.getElem?_set_ne c] at e ⊢
      exact s.vs j u e
  als := fun j l e => by
    by_cases c : i = j
    · subst c
      by_cases hi : i < σT.length
      · rw [List.getElem?_set_self hi] at e; cases e
      · rw [List.getElem?_eq_none (by rw [List.length_set]; omega)] at e; cases e
    · rw [List.getElem?_set_ne c] at e
      obtain ⟨a, vs, q, r⟩ := s.als j l e
      exact ⟨a, vs, by rw [List.getElem?_set_ne c]; exact q, r⟩
  adj := fun j j' l m a e1 e2 e3 e4 => by
    have ne : ∀ {j : Nat} {l : List T}, (σT.set i none)[j]? = some (some (.al l)) → i ≠ j := fun {j l} e c => by
      subst c
      by_cases hi : i < σT.length
      · rw [List.getElem?_set_self hi] at e; cases e
      · rw [List.getElem?_eq_none (by rw [List.length_set]; omega)] at e; cases e
    have n1 := ne e1
    have n2 := ne e2
    rw [List.getElem?_set_ne n1] at e1 e3
    rw [List.getElem?_set_ne n2] at e2 e4
    exact s.adj j j' l m a e1 e2 e3 e4
theorem SR.wipe (s : SR K mg ρ I h H σT σ) : ∀ vs : List Nat, SR K mg ρ I h H (wipeT σT vs) (L2.wipe σ vs)
  | [] => s
  | v :: vs => (SR.wipe s vs).clr v none
theorem wipe_set (σ : St) (x : Option V) : ∀ {vs : List Nat} {i : Nat}, i ∈ vs → L2.wipe (σ.set i x) vs = L2.wipe σ vs
  | v :: vs, i, hm => by
    show (L2.wipe (σ.set i x) vs).set v none = (L2.wipe σ vs).set v none
    by_cases c : i ∈ vs
    · rw [wipe_set σ x c]
    · have e : i = v := by simpa [c] using hm
      subst e
      have out : ∀ {ws : List Nat}, i ∉ ws → L2.wipe (σ.set i x) ws = (L2.wipe σ ws).set i x := by
        intro ws
        induction ws with
        | nil => intro _; rfl
        | cons w ws ih =>
          intro hn
          have h1 : i ≠ w := fun e => hn (by simp [e])
          show (L2.wipe (σ.set i x) ws).set w none = ((L2.wipe σ ws).set w none).set i x
          rw [ih (fun z => hn (by simp [z])), List.set_comm _ _ h1]
      rw [out c, List.set_set]
def tTg (K : PySem.W.Frag) (mg : Str → Option Value) (vs : List Nat) (f : T → Slots → Option Slots) : TG := fun v σ H Q => ∃ ρ I σT h t σ2, HR K mg ρ I h H ∧ SR K mg ρ I h H σT σ ∧ Rep K mg ρ I H v t ∧ f t σT = some σ2 ∧
  ∀ σ', SR K mg ρ I h H σ2 σ' → L2.wipe σ' vs = L2.wipe σ vs → Q σ' H
def tTgs (K : PySem.W.Frag) (mg : Str → Option Value) (vs : List Nat) (f : List T → Slots → Option Slots) : TGs := fun ws σ H Q => ∃ ρ I σT h ts σ2, HR K mg ρ I h H ∧ SR K mg ρ I h H σT σ ∧ Reps K mg ρ I H ws ts ∧ f ts σT = some σ2 ∧
  ∀ σ', SR K mg ρ I h H σ2 σ' → L2.wipe σ' vs = L2.wipe σ vs → Q σ' H
theorem PG.imp {X : Cx} {e : Expr} {t t' : TG} (p : PG X e t) (f : ∀ v σ H Q, t' v σ H Q → t v σ H Q) : PG X e t' := ⟨fun pins s σ H v u Q I r h => p.run pins s σ H v u Q I r (f v σ H Q h)⟩
theorem PGs.imp {X : Cx} {e : List Expr} {t t' : TGs} (p : PGs X e t) (f : ∀ v σ H Q, t' v σ H Q → t v σ H Q) : PGs X e t' := ⟨fun pins s σ H v u Q I r h => p.run pins s σ H v u Q I r (f v σ H Q h)⟩
theorem each_len {env : Env} : ∀ es : List Expr, (assignEach es env).length = es.length
  | [] => rfl
  | e :: es => by cases e <;> exact congrArg (· + 1) (each_len es)
theorem each_eq {e : Expr} {es : List Expr} {env : Env} (h : notStar e = true) : assignEach (e :: es) env = (false, assign e env) :: assignEach es env := by cases e <;> first | rfl | cases h
end
mutual
/-- a target's reading: fn: the names whose cells are the block's own, or all -/
theorem s_tg {X : Cx} {sc : Scope} (hc : X.calm = true) (hN : X.N.Nodup) (hs : ∀ x, locB sc x = true → Loc X.env.scope x ∧ (X.fn x = true ∨ X.env.scope.names.lookup x = some .local)) (vs : List Nat) : ∀ (g : Tg) (e : Expr), mTg sc X.N g e = true → (∀ i ∈ g.ixs, i ∈ vs) → PG X e (tTg X.K X.mg vs (asgT g))
  | .nm i, .Name x pos, m, hv => by
    have q := and_tt m
    have hi : X.N[i]? = some x := of_decide_eq_true q.1
    have hl := hs x q.2
    refine PG.imp (pg_name hN hi hl.1 hl.2) ?_
    rintro v σ H Q ⟨ρ, I, σT, h, t, σ2, hr, sr, p, e, k⟩
    cases e
    exact k _ (sr.set p i) (wipe_set σ _ (hv i (by simp [Tg.ixs])))
  | .tp l, .Tuple es j pos, m, hv => by
    have pgs := s_tgs hc hN hs vs l es m (fun i hi => hv i hi)
    have st : (assignEach es X.env).findIdx? (·.1) = none := by
      have : ∀ (l : List Tg) (es : List Expr), mTgs sc X.N l es = true → (assignEach es X.env).findIdx? (·.1) = none := by
        intro l
        induction l with
        | nil => intro es m; cases es with
          | nil => rfl
          | cons e es => cases m
        | cons g l ih => intro es m; cases es with
          | nil => cases m
          | cons e es =>
            have q := and_tt m
            rw [each_eq (and_tt q.1).1, List.findIdx?_cons]
            rw [ih es q.2]
            rfl
      exact this l es m
    refine PG.imp (pg_tup hc pgs (each_len es) st) ?_
    rintro v σ H Q ⟨ρ, I, σT, h, t, σ2, hr, sr, p, e, k⟩
    cases t with
    | tup ts =>
      obtain ⟨a, ws, rfl, s, w⟩ := p
      refine ⟨a, ws, rfl, seqT_of s, ?_, ρ, I, σT, h, ts, σ2, hr, sr, w, e, k⟩
      have : ∀ (l : List Tg) (ts : List T) (σ σ2 : Slots), asgTs l ts σ = some σ2 → l.length = ts.length := by
        intro l
        induction l with
        | nil => intro ts σ σ2 e; cases ts with
          | nil => rfl
          | cons t ts => cases e
        | cons g l ih => intro ts σ σ2 e; cases ts with
          | nil => cases e
          | cons t ts =>
            rw [asgTs] at e
            cases z : asgT g t σ with
            | none => rw [z] at e; cases e
            | some σ1 => rw [z] at e; exact congrArg (· + 1) (ih ts σ1 σ2 e)
      have e1 := this l ts σT σ2 e
      have e2 : ∀ (l : List Tg) (es : List Expr), mTgs sc X.N l es = true → l.length = es.length := by
        intro l
        induction l with
        | nil => intro es m; cases es with
          | nil => rfl
          | cons e es => cases m
        | cons g l ih => intro es m; cases es with
          | nil => cases m
          | cons e es => exact congrArg (· + 1) (ih es (and_tt m).2)
      rw [w.length, ← e1, e2 l es m]
    | _ => cases e
theorem s_tgs {X : Cx} {sc : Scope} (hc : X.calm = true) (hN : X.N.Nodup) (hs : ∀ x, locB sc x = true → Loc X.env.scope x ∧ (X.fn x = true ∨ X.env.scope.names.lookup x = some .local)) (vs : List Nat) : ∀ (l : List Tg) (es : List Expr), mTgs sc X.N l es = true → (∀ i ∈ ixss l, i ∈ vs) → PGs X es (tTgs X.K X.mg vs (asgTs l))
  | [], [], _, _ => PGs.imp pgs_nil fun ws σ H Q ⟨ρ, I, σT, h, ts, σ2, hr, sr, p, e, k⟩ => by
    cases ts with
    | nil =>
      cases ws with
      | nil => cases e; exact ⟨rfl, k σ sr rfl⟩
      | cons w ws => exact p.elim
    | cons t ts => cases e
  | g :: l, e :: es, m, hv => by
    have q := and_tt m
    have p1 := s_tg hc hN hs vs g e (and_tt q.1).2 (fun i hi => hv i (List.mem_append_left _ hi))
    have p2 := s_tgs hc hN hs vs l es q.2 (fun i hi => hv i (List.mem_append_right _ hi))
    refine PGs.imp (pgs_cons p1 p2 (by rw [each_eq (and_tt q.1).1]; rfl)) ?_
    rintro ws σ H Q ⟨ρ, I, σT, h, ts, σ2, hr, sr, p, e, k⟩
    cases ts with
    | nil => cases e
    | cons t ts =>
      cases ws with
      | nil => exact p.elim
      | cons w ws =>
        rw [asgTs] at e
        cases z : asgT g t σT with
        | none => rw [z] at e; cases e
        | some σ1 =>
          rw [z] at e
          refine ⟨w, ws, rfl, ρ, I, σT, h, t, σ1, hr, sr, p.1, z, fun σ' sr' ew => ?_⟩
          exact ⟨ρ, I, σ1, h, ts, σ2, hr, sr', p.2, e, fun σ'' sr'' ew' => k σ'' sr'' (ew'.trans ew)⟩
end
end VY
namespace VY
open PySem PySem.Spec
open PyProof.Rows hiding St
open L2
section
variable {K : PySem.W.Frag} {mg : Str → Option Value} {ρ ρ' : List Addr} {I I' : Addr → Prop} {h h' : Hs} {H H' H0 : Hp} {σT : Slots} {σ : St} {W W' : WX} {α β : Type}
theorem Nx.noex {o : Out α} {k : α → Hs → List Addr → (Addr → Prop) → Hp → Prop} (n : Nx K mg W σ ρ I h H (noex o) k) {σ' : St} : Nx K mg W' σ' ρ I h H o k := by
  cases o with
  | ok a h1 => exact n
  | ex x h1 => exact n.elim
  | bad => exact n.elim
/-- a thing that nobody else holds is changed -/
theorem ext_at {a : Addr} (o : HO) (x : Ext ρ I h H ρ' I' h' H') (e : H a = none) : Ext ρ I h H ρ' I' h' (upd H' a o) where
  pre := x.pre
  sub := x.sub
  keep := fun b d l => (upd_ne (fun z => by subst z; exact not_none d e)).trans (x.keep b d l)
  dom := fun b d => upd_dom (x.dom b d)
  inew := x.inew
  lnew := x.lnew
theorem kp_at {a : Addr} (o : HO) (ni : ¬ I a) : Kp ρ I H ρ I (upd H a o) := ⟨fun _ _ e => e, fun _ e => e, fun b i => upd_ne fun z => ni (z ▸ i)⟩
theorem hr_at {a : Addr} (o : HO) (r : HR K mg ρ I h H) (ni : ¬ I a) (nl : ¬ Live ρ h a) : HR K mg ρ I h (upd H a o) where
  len := r.len
  inj := r.inj
  dis := r.dis
  idom := fun b i => upd_dom (r.idom b i)
  obj := fun n u b e1 e2 => (r.obj n u b e1 e2).mono (kp_at o ni) fun nd => upd_ne fun z => nl (z ▸ ⟨n, u, e2, e1, nd⟩)
theorem none_back (x : Ext ρ I h H ρ' I' h' H') {a : Addr} (e : H' a = none) : H a = none := by
  cases z : H a with
  | none => rfl
  | some _ => exact (not_none (x.dom a (isSome_of z)) e).elim
mutual
theorem own_ixs (nm : List Str) : ∀ g : Tg, (ownOf nm g).map (·.2) = g.ixs
  | .nm i => rfl
  | .tp l => own_ixss nm l
theorem own_ixss (nm : List Str) : ∀ l : List Tg, (ownOfs nm l).map (·.2) = ixss l
  | [] => rfl
  | g :: l => by rw [ownOfs, List.map_append, own_ixs nm g, own_ixss nm l]; rfl
end
end
section
variable {X : Cx} {N : Nms} {Γ : Ctx} {k : Nat} {W : WX}
theorem drop_at {α : Type} {l : List α} {i : Nat} {x : α} (e : l[i]? = some x) : l.drop i = x :: l.drop (i + 1) := by
  obtain ⟨hi, e'⟩ := List.getElem?_eq_some_iff.mp e
  rw [List.drop_eq_getElem_cons hi, e']
/-- the loop of a comprehension -/
theorem lc_loop {g : TG} {tt : TT} {te : TE} {vs : List Nat} {F : T → Hs → Out (Option T)} {f : Slots → Hs → Out (List T)} {σ : St} {H : Hp} {Q : VK} {ρ : List Addr} {I : Addr → Prop} {h : Hs} {σT : Slots} {K : PySem.W.Frag} {mg : Str → Option Value}
    (hr : HR K mg ρ I h H) (sr : SR K mg ρ I h H σT σ) (n : Nx K mg W σ ρ I h H ((f σT h).bind fun p h1 => (lcL F p [] h1).bind fun l h2 => .ok (.al l) h2) fun r h' ρ' I' H' => ∀ v, RO K mg ρ' I' h' H' H σT σ v r → Q v H')
    (turn : ∀ ρc Ic hc Hc t x (P : VK) (P' : Hp → Prop), HR K mg ρc Ic hc Hc → SR K mg ρc Ic hc Hc σT σ → Rep K mg ρc Ic Hc x t → (∀ {W' : WX} {σ' : St}, Nx K mg W' σ' ρc Ic hc Hc (F t hc) fun o h4 ρ4 I4 H4 => match o with
      | some t' => ∀ y, Rep K mg ρ4 I4 H4 y t' → P y H4
      | none => P' H4) → g x (L2.wipe σ vs) Hc fun σ2 H2 => L2.wipe σ2 vs = L2.wipe σ vs ∧ tt σ2 H2 fun b H3 => if b = true then te σ2 H3 P else P' H3)
    (hF : ∀ t h, noex (F t h) = F t h) : tLc (tIt K mg W true f) g tt te vs σ H Q := by
  refine ⟨ρ, I, σT, h, hr, sr, n.bind.imp fun ts h1 ρ1 I1 H1 x1 r1 n1 J C st wk D hD => ?_⟩
  have s1 := sr.ext hr x1
  have hD0 : H D = none := none_back x1 hD
  -- the state in a turn
  refine ⟨fun i m Hc => m = ts.length - i ∧ i ≤ ts.length ∧ ∃ ρc Ic hc acc, Ext ρ1 I1 h1 H1 ρc Ic hc Hc ∧ HR K mg ρc Ic hc Hc ∧ RO K mg ρc Ic hc Hc H1 σT σ (.ref D) (.al acc) ∧
    Nx K mg W σ ρ1 I1 h1 H1 ((lcL F (ts.drop i) acc hc).bind fun l h2 => .ok (.al l) h2) fun r h' ρ' I' H' => ∀ v, RO K mg ρ' I' h' H' H σT σ v r → Q v H', ⟨ts.length, ?_⟩, ?_⟩
  · refine ⟨by omega, Nat.zero_le _, ρ1, I1, h1, [], ext_new _ hD, hr_new _ r1 hD, ⟨D, [], rfl, hD, upd_same, fun z => not_none (r1.idom D z) hD, fun z => not_none (live_some r1 z) hD, trivial⟩, ?_⟩
    exact n1
  · rintro i m Hc ⟨rfl, hi', ρc, Ic, hc, acc, xc, rc, oc, nc⟩
    have cC : C Hc := by
      unfold Stay at st
      rw [if_pos rfl] at st
      exact st _ _ _ _ xc
    by_cases hlt : i < ts.length
    · refine .inr ⟨wk.go i Hc hlt cC, fun H' => ∃ ρc Ic hc acc, Ext ρ1 I1 h1 H1 ρc Ic hc H' ∧ HR K mg ρc Ic hc H' ∧ RO K mg ρc Ic hc H' H1 σT σ (.ref D) (.al acc) ∧
        Nx K mg W σ ρ1 I1 h1 H1 ((lcL F (ts.drop (i + 1)) acc hc).bind fun l h2 => .ok (.al l) h2) fun r h' ρ' I' H' => ∀ v, RO K mg ρ' I' h' H' H σT σ v r → Q v H', fun H' ⟨ρ2, I2, h2, acc2, a1, a2, a3, a4⟩ => ⟨ts.length - (i + 1), by omega, rfl, hlt, ρ2, I2, h2, acc2, a1, a2, a3, a4⟩, ?_⟩
      intro x H' y
      obtain ⟨e, t, et, rt⟩ := wk.yld i x Hc H' cC hlt y
      subst e
      rw [drop_at et] at nc
      refine turn ρc Ic hc H' t x _ _ rc (s1.ext r1 xc) (rt.mono (xc.kp r1)) ?_
      intro W' σ'
      cases eF : F t hc with
      | bad =>
        have nc' : Nx K mg W σ ρ1 I1 h1 H1 (((F t hc).bind _).bind _) _ := nc
        rw [eF] at nc'
        exact nc'.elim
      | ex y h4 =>
        have z := hF t hc
        rw [eF] at z
        cases z
      | ok o h4 =>
        have nc' : Nx K mg W σ ρ1 I1 h1 H1 (((F t hc).bind _).bind _) _ := nc
        rw [eF] at nc'
        intro ρ4 I4 H4 x4 r4
        have o4 := oc.ext rc x4
        cases o with
        | none => exact ⟨ρ4, I4, h4, acc, xc.trans x4, r4, o4, nc'⟩
        | some t' =>
          intro y q
          have n5 : Nx K mg W σ ρ1 I1 h1 H1 ((if acc.length < SL then lcL F (ts.drop (i + 1)) (acc ++ [t']) h4 else .bad).bind _) _ := nc'
          split at n5
          · rename_i hz
            obtain ⟨a, ws, ea, na, p, ni, nl, w⟩ := o4
            cases ea
            exact ⟨ws, p, by rw [w.length, sizeLine_eq]; exact hz, ρ4, I4, h4, acc ++ [t'], ext_at _ (xc.trans x4) hD, hr_at _ r4 ni nl, ⟨D, ws ++ [y], rfl, hD, upd_same, ni, nl, Reps.mono (kp_at _ ni) (w.append (ws := [y]) (m := [t']) ⟨q, trivial⟩)⟩, n5⟩
          · exact n5.elim
    · have e : i = ts.length := by omega
      subst e
      refine .inl ⟨wk.stop Hc cC, ?_⟩
      rw [List.drop_length] at nc
      exact nc ρc Ic Hc xc rc (.ref D) (oc.back x1.dom)
theorem wipe_get (σ : St) (j : Nat) : ∀ vs : List Nat, (L2.wipe σ vs)[j]? = if j ∈ vs then (if j < σ.length then some none else none) else σ[j]?
  | [] => by simp [L2.wipe]
  | v :: vs => by
    show ((L2.wipe σ vs).set v none)[j]? = _
    rw [List.getElem?_set, wipe_get σ j vs, wipe_length]
    by_cases e : v = j
    · subst e; simp
    · have e' : ¬ j = v := fun z => e z.symm
      simp [e, e']
theorem wipe_idem (σ : St) (vs : List Nat) : L2.wipe (L2.wipe σ vs) vs = L2.wipe σ vs := by
  apply List.ext_getElem?
  intro j
  rw [wipe_get, wipe_get, wipe_length]
  split <;> rfl
theorem blk_loc (X : Cx) (s : Shared) (H : Hp) (scope : Scope) (C : Addr) (cl : List (Str × Addr)) (fp : List Addr) (x : Str) (m : locB scope x = true) :
    Loc (X.blk s H scope (compEnvC scope cl C X.env) fp).env.scope x ∧ ((X.blk s H scope (compEnvC scope cl C X.env) fp).fn x = true ∨ (X.blk s H scope (compEnvC scope cl C X.env) fp).env.scope.names.lookup x = some .local) := by
  rcases loc_of m with z | z
  · have q : (relS scope X.env.scope).names.lookup x = some .local := lookup_relS_keep (sc := X.env.scope) (by decide) z
    exact ⟨.inl q, .inr q⟩
  · have q : (relS scope X.env.scope).names.lookup x = some .cell := lookup_relS_keep (sc := X.env.scope) (by decide) z
    exact ⟨.inr q, .inl (by show (scope.names.lookup x == some .cell) = true; rw [z]; rfl)⟩
theorem noex_noex {α : Type} (o : Out α) : noex (noex o) = noex o := by cases o <;> rfl
theorem lc_imp {elt : E} {tg : Tg} {it : It} {cond : C} {K : PySem.W.Frag} {mg : Str → Option Value} {nm : List Str} {σ : St} {H : Hp} {Q : VK} (q : tD K mg W (evE Γ (.lc elt tg it cond)) σ H Q) :
    tLc (tIt K mg W true (evIt Γ true it)) (tTg K mg tg.ixs (asgT tg)) (tB K mg (fun _ _ _ _ => False) (evC Γ cond)) (tD K mg (fun _ _ _ _ => False) (evE Γ elt)) ((ownOf nm tg).map (·.2)) σ H Q := by
  obtain ⟨ρ, I, σT, h, hr, sr, n⟩ := q
  rw [evE] at n
  rw [own_ixs]
  refine lc_loop hr sr n ?_ fun t h => noex_noex _
  intro ρc Ic hc Hc t x P P' rc sc rt nF
  cases z : asgT tg t (wipeT σT tg.ixs) with
  | none =>
    have n3 := nF (W' := W) (σ' := σ)
    rw [z] at n3
    exact n3.elim
  | some σ2 =>
    refine ⟨ρc, Ic, wipeT σT tg.ixs, hc, t, σ2, rc, sc.wipe tg.ixs, rt, z, fun σ' sr' ew => ⟨ew.trans ?_, ?_⟩⟩
    · exact wipe_idem σ tg.ixs
    · have n3 := nF (W' := fun _ _ _ _ => False) (σ' := σ')
      rw [z] at n3
      have n4 := n3.noex (W' := fun _ _ _ _ => False) (σ' := σ')
      refine ⟨ρc, Ic, σ2, hc, rc, sr', n4.bind.imp fun b h3 ρ3 I3 H3 x3 r3 n5 => ?_⟩
      have s3 := sr'.ext rc x3
      cases b with
      | false => exact n5 ρ3 I3 H3 .refl r3
      | true =>
        rw [if_pos rfl] at n5
        refine ⟨ρ3, I3, σ2, h3, r3, s3, n5.bind.imp' fun r h4 ρ4 I4 H4 x4 r4 n6 y o4 => ?_⟩
        cases e : frz r with
        | none => have n7 := n6 ρ4 I4 H4 x4 r4; rw [e] at n7; exact n7.elim
        | some t' =>
          obtain ⟨I5, x5, r5, q5⟩ := o4.keep x4 r4 e
          have n7 := n6 ρ4 I5 H4 x5 r5
          rw [e] at n7
          exact n7 ρ4 I5 H4 .refl r5 y q5
theorem lc_hg (G : Gd X N Γ k W) {tg : Tg} {pt : Expr} {scope : Scope} (mt : mTg scope X.N tg pt = true) : ∀ (s : Shared) (H : Hp) (C : Addr) (cl : List (Str × Addr)) (fp : List Addr), PG (X.blk s H scope (compEnvC scope cl C X.env) fp) pt (tTg X.K X.mg tg.ixs (asgT tg)) := fun s H C cl fp =>
    s_tg (X := X.blk s H scope (compEnvC scope cl C X.env) fp) (sc := scope) G.calm G.nd (blk_loc X s H scope C cl fp) tg.ixs tg pt mt fun _ z => z
theorem s_lc (G : Gd X N Γ k W) {elt : E} {tg : Tg} {it : It} {cond : C} {pe pt pi : Expr} {ifs : List Expr} {scope : Scope} {pos : Pos} (ok : BlkOk X.N X.env.scope scope (ownOf X.N tg)) (mt : mTg scope X.N tg pt = true)
    (hi : PI X pt pi (tIt X.K X.mg W true (evIt Γ true it))) (hs : notSet pi = true)
    (ht : ∀ (s : Shared) (H : Hp) (C : Addr) (cl : List (Str × Addr)) (fp : List Addr), PTs (X.blk s H scope (compEnvC scope cl C X.env) fp) ifs (tB X.K X.mg (fun _ _ _ _ => False) (evC Γ cond)))
    (he : ∀ (s : Shared) (H : Hp) (C : Addr) (cl : List (Str × Addr)) (fp : List Addr), PE (X.blk s H scope (compEnvC scope cl C X.env) fp) pe (tD X.K X.mg (fun _ _ _ _ => False) (evE Γ elt))) :
    PE X (.ListComp pe [⟨pt, pi, ifs, 0⟩] scope pos) (tD X.K X.mg W (evE Γ (.lc elt tg it cond))) :=
  PE.imp (pe_lc G.calm G.nd hi ok (lc_hg G mt) ht he (not_folded hs)) fun σ H Q q => lc_imp q
theorem s_setLc (G : Gd X N Γ k W) {elt : E} {tg : Tg} {it : It} {cond : C} {pe pt pi : Expr} {ifs : List Expr} {scope : Scope} {pos spos py : Pos} {j : Nat} {y : Str} (hy : X.N[j]? = some y) (hyl : X.env.scope.names.lookup y = some .local)
    (hsw : swapsWith (.ListComp pe [⟨pt, pi, ifs, 0⟩] scope pos) (some (.Name y py)) spos.line X.env = pure true) (ok : BlkOk X.N X.env.scope scope (ownOf X.N tg)) (mt : mTg scope X.N tg pt = true)
    (hi : PI X pt pi (tIt X.K X.mg W true (evIt Γ true it))) (hs : notSet pi = true)
    (ht : ∀ (s : Shared) (H : Hp) (C : Addr) (cl : List (Str × Addr)) (fp : List Addr), PTs (X.blk s H scope (compEnvC scope cl C X.env) fp) ifs (tB X.K X.mg (fun _ _ _ _ => False) (evC Γ cond)))
    (he : ∀ (s : Shared) (H : Hp) (C : Addr) (cl : List (Str × Addr)) (fp : List Addr), PE (X.blk s H scope (compEnvC scope cl C X.env) fp) pe (tD X.K X.mg (fun _ _ _ _ => False) (evE Γ elt))) :
    PS X (.Assign [.Name y py] (.ListComp pe [⟨pt, pi, ifs, 0⟩] scope pos) spos) (tAsg (tD X.K X.mg W (evE Γ (.lc elt tg it cond))) (gName j)) :=
  PS.imp (ps_setLc G.calm G.nd hy hyl hsw hi ok (lc_hg G mt) ht he (not_folded hs)) fun D σ H q => lc_imp q
end
end VY
namespace VY
open PySem PySem.Spec
open PyProof.Rows hiding St
open L2
theorem pts_yes {X : Cx} {K : PySem.W.Frag} {mg : Str → Option Value} {W : WX} {Γ : Ctx} : PTs X [] (tB K mg W (evC Γ .yes)) := by
  refine ⟨fun pins s σ H Q I w => pts_nil.run pins s σ H Q I ?_⟩
  obtain ⟨ρ, I', σT, h, hr, sr, n⟩ := w
  exact n ρ I' H .refl hr
theorem ff {P : Prop} (h : false = true) : P := nomatch h
theorem relS_env (X : Cx) (s : Shared) (H : Hp) (scope : Scope) (C : Addr) (cl : List (Str × Addr)) (fp : List Addr) : (X.blk s H scope (compEnvC scope cl C X.env) fp).env.scope = relS scope X.env.scope := rfl
mutual
theorem sE {N : Nms} {Γ : Ctx} {k : Nat} : ∀ (e : E) {X : Cx} {W : WX} (G : Gd X N Γ k W) {pe : Expr}, mE N X.N X.env.scope e pe = true → PE X pe (tD X.K X.mg W (evE Γ e))
  | .c _, X, W, G, pe, m => by
    unfold mE at m; split at m
    · exact s_c m
    · exact ff m
  | .var _, X, W, G, pe, m => by
    unfold mE at m; split at m
    · exact s_var (of_decide_eq_true (and_tt (and_tt m).1).1) (and_tt (and_tt m).1).2 (and_tt m).2
    · exact ff m
  | .gl _, X, W, G, pe, m => by
    unfold mE at m; split at m
    · exact s_gl G (of_decide_eq_true (and_tt m).1) (and_tt m).2
    · exact ff m
  | .bin op a b, X, W, G, pe, m => by
    unfold mE at m; split at m
    · have q := and_tt m
      have q1 := and_tt q.1
      cases of_decide_eq_true q1.1
      exact s_bin op (sE a G q1.2) (sE b G q.2)
    · exact ff m
  | .neg a, X, W, G, pe, m => by
    unfold mE at m; split at m
    · exact s_neg (sE a G m)
    · exact ff m
  | .not a, X, W, G, pe, m => by
    unfold mE at m; split at m
    · exact s_not (sE a G m)
    · exact ff m
  | .bop op es, X, W, G, pe, m => by
    unfold mE at m; split at m
    · have q := and_tt m
      cases of_decide_eq_true q.1
      exact sB es G q.2
    · exact ff m
  | .cmp op a b, X, W, G, pe, m => by
    unfold mE at m; split at m
    · split at m
      · have q := and_tt m
        have q1 := and_tt q.1
        have q2 := and_tt q1.1
        cases of_decide_eq_true q2.1
        refine PE.imp (pe_cmpR (cmp_sound (mg := X.mg) rfl G.hu op) (sE a G q2.2) (sE b G q1.2) (not_marks q.2)) fun σ H Q z => ?_
        obtain ⟨ρ, I, σT, h, hr, sr, n⟩ := s_cmp G op (sE a G q2.2) (sE b G q1.2) z
        refine ⟨ρ, I, σT, h, hr, sr, n.imp fun r h' ρ' I' H' x' r' n' v o => ?_⟩
        obtain ⟨ρ1, I1, σ1, h1, hr1, sr1, n1⟩ := n' v o
        refine ⟨ρ1, I1, σ1, h1, hr1, sr1, n1.imp fun r h' ρ' I' H' x' r' n' v o => ?_⟩
        obtain ⟨ρ2, I2, h2, t, u, k, a1, a2, a3, a4, _, a5⟩ := n' v o
        exact ⟨ρ2, I2, h2, t, u, k, a1, a2, a3, a4, a5⟩
      · exact ff m
    · exact ff m
  | .ch op op' a b c, X, W, G, pe, m => by
    unfold mE at m; split at m
    · split at m
      · have q := and_tt m
        have q1 := and_tt q.1
        have q2 := and_tt q1.1
        have q3 := and_tt q2.1
        have q4 := and_tt q3.1
        cases of_decide_eq_true q4.1
        cases of_decide_eq_true q4.2
        refine PE.imp (pe_chain (cmp_sound (mg := X.mg) rfl G.hu op) (cmp_sound (mg := X.mg) rfl G.hu op') (sE a G q3.2) (sE b G q2.2) (sE c G q1.2) (show behindInMarks op' _ = false from not_marks q.2)) fun σ H Q z => ?_
        exact chain_imp tD_imp tD_imp tD_imp rCmp_imp rCmp_imp (fun v H' z => z.2) (s_ch G op op' z)
      · exact ff m
    · exact ff m
  | .ife c a b, X, W, G, pe, m => by
    unfold mE at m; split at m
    · have q := and_tt m
      have q1 := and_tt q.1
      exact s_ife (sC c G q1.1) (sE a G q1.2) (sE b G q.2)
    · exact ff m
  | .tup es, X, W, G, pe, m => by
    unfold mE at m; split at m
    · exact s_tup (sEs es G (and_tt m).1 (and_tt m).2)
    · exact ff m
  | .lst es, X, W, G, pe, m => by
    unfold mE at m; split at m
    · exact s_lst (sEs es G (and_tt m).1 (and_tt m).2)
    · exact ff m
  | .ix a b, X, W, G, pe, m => by
    unfold mE at m; split at m
    · have q := and_tt m
      have q1 := and_tt q.1
      exact s_ix (sE a G q1.1) (sE b G q1.2) q.2
    · exact ff m
  | .sl a lo hi, X, W, G, pe, m => by
    unfold mE at m; split at m
    · split at m
      · have q := and_tt m
        have q1 := and_tt q.1
        exact s_sl (sE a G q1.1) (sO lo G q1.2) (sO hi G q.2)
      · exact ff m
    · exact ff m
  | .call f es, X, W, G, pe, m => by
    unfold mE at m; split at m
    · have q := and_tt m
      have q1 := and_tt q.1
      have q2 := and_tt q1.1
      have q3 := and_tt q2.1
      exact s_call G (of_decide_eq_true q3.1) (of_decide_eq_true q3.2) q2.2 (sEs es G q1.2 q.2) q.2 (fun z => by
        subst z
        cases es with
        | nil => rfl
        | cons e es => exact ff q1.2)
    · exact ff m
  | .blt f es, X, W, G, pe, m => by
    unfold mE at m; split at m
    · rename_i x p xs pos
      have q := and_tt m
      have q1 := and_tt q.1
      have q2 := and_tt q1.1
      have q3 := and_tt q2.1
      cases of_decide_eq_true q3.1
      cases xs with
      | nil => exact ff q.2
      | cons pa ps => exact s_blt G q3.2 (sPs es G q2.2 q1.2) q1.2
    · exact ff m
  | .lc elt tg it cond, X, W, G, pe, m => by
    unfold mE at m; split at m
    · split at m
      · rename_i t iter ifs a
        have q := and_tt m
        have q1 := and_tt q.1
        have q2 := and_tt q1.1
        have q3 := and_tt q2.1
        have q4 := and_tt q3.1
        have q5 := and_tt q4.1
        cases of_decide_eq_true q5.1
        refine s_lc G (blkOk_by q5.2) q4.2 (sIt it true G t q3.2) q2.2 (fun s H C cl fp => ?_) (fun s H C cl fp => sE elt (G.blk s H _ (compEnvC _ cl C X.env) fp) q1.2)
        have qc := q.2
        split at qc
        · split at qc
          · exact pts_yes
          · exact ff qc
        · split at qc
          · exact ff qc
          · exact pts_one (sC cond (G.blk s H _ (compEnvC _ cl C X.env) fp) qc)
        · exact ff qc
      · exact ff m
    · exact ff m
theorem sB {N : Nms} {Γ : Ctx} {k : Nat} : ∀ (es : List E) {X : Cx} {W : WX} (G : Gd X N Γ k W) {ps : List Expr} {op : BoolOp} {pos : Pos}, mEs N X.N X.env.scope es ps = true → PE X (.BoolOp op ps pos) (tD X.K X.mg W (evB Γ op es))
  | [], X, W, G, ps, op, pos, m => by
    refine ⟨fun pins s σ H Q I w => ?_⟩
    obtain ⟨ρ, I', σT, h, hr, sr, n⟩ := w
    exact n.elim
  | [a], X, W, G, ps, op, pos, m => by
    match ps, m with
    | [pa], m => exact s_b1 (sE a G (and_tt m).1)
    | _ :: _ :: _, m => exact ff (and_tt m).2
  | a :: b :: es, X, W, G, ps, op, pos, m => by
    match ps, m with
    | pa :: pb :: ps, m => exact s_b2 (sE a G (and_tt m).1) (sB (b :: es) G (and_tt m).2)
    | [_], m => exact ff (and_tt m).2
theorem sO {N : Nms} {Γ : Ctx} {k : Nat} : ∀ (o : O) {X : Cx} {W : WX} (G : Gd X N Γ k W) {pe : Option Expr}, mO N X.N X.env.scope o pe = true → PO X pe (tO X.K X.mg W (evO Γ o))
  | .no, X, W, G, none, m => s_o0
  | .at e, X, W, G, some pe, m => s_o1 (sE e G m)
  | .no, X, W, G, some pe, m => ff m
  | .at e, X, W, G, none, m => ff m
theorem sIt {N : Nms} {Γ : Ctx} {k : Nat} : ∀ (it : It) (own : Bool) {X : Cx} {W : WX} (G : Gd X N Γ k W) (tg : Expr) {pe : Expr}, mIt N X.N X.env.scope it pe = true → PI X tg pe (tIt X.K X.mg W own (evIt Γ own it))
  | .e a, own, X, W, G, tg, pe, m => s_ite (sE a G (and_tt m).1)
  | .r1 a, own, X, W, G, tg, pe, m => by
    unfold mIt at m; split at m
    · split at m
      · have q := and_tt m
        have q1 := and_tt q.1
        have q2 := and_tt q1.1
        cases of_decide_eq_true q2.1
        exact s_itr1 G q2.2 (sE a G q1.2) q.2
      · exact ff m
    · exact ff m
  | .r2 a b, own, X, W, G, tg, pe, m => by
    unfold mIt at m; split at m
    · split at m
      · have q := and_tt m
        have q1 := and_tt q.1
        have q2 := and_tt q1.1
        have q3 := and_tt q2.1
        have q4 := and_tt q3.1
        cases of_decide_eq_true q4.1
        exact s_itr2 G q4.2 (sE a G q3.2) (sE b G q2.2) q1.2 q.2
      · exact ff m
    · exact ff m
theorem sC {N : Nms} {Γ : Ctx} {k : Nat} : ∀ (c : C) {X : Cx} {W : WX} (G : Gd X N Γ k W) {pe : Expr}, mCd N X.N X.env.scope c pe = true → PT X pe (tB X.K X.mg W (evC Γ c))
  | .yes, X, W, G, pe, m => ff m
  | .t (.cmp op a b), X, W, G, pe, m => by
    have m : mE N X.N X.env.scope (.cmp op a b) pe = true := m
    unfold mE at m; split at m
    · split at m
      · have q := and_tt m
        have q1 := and_tt q.1
        have q2 := and_tt q1.1
        cases of_decide_eq_true q2.1
        exact s_tcmp G op (sE a G q2.2) (sE b G q1.2) q.2
      · exact ff m
    · exact ff m
  | .t (.ch op op' a b c), X, W, G, pe, m => by
    have m : mE N X.N X.env.scope (.ch op op' a b c) pe = true := m
    unfold mE at m; split at m
    · split at m
      · have q := and_tt m
        have q1 := and_tt q.1
        have q2 := and_tt q1.1
        have q3 := and_tt q2.1
        have q4 := and_tt q3.1
        cases of_decide_eq_true q4.1
        cases of_decide_eq_true q4.2
        exact s_tch G op op' (sE a G q3.2) (sE b G q2.2) (sE c G q1.2) q.2
      · exact ff m
    · exact ff m
  | .t (.c x), X, W, G, pe, m => s_t (sE (.c x) G (and_tt m).1) (and_tt m).2
  | .t (.var x), X, W, G, pe, m => s_t (sE (.var x) G (and_tt m).1) (and_tt m).2
  | .t (.gl x), X, W, G, pe, m => s_t (sE (.gl x) G (and_tt m).1) (and_tt m).2
  | .t (.bin op a b), X, W, G, pe, m => s_t (sE (.bin op a b) G (and_tt m).1) (and_tt m).2
  | .t (.neg a), X, W, G, pe, m => s_t (sE (.neg a) G (and_tt m).1) (and_tt m).2
  | .t (.not a), X, W, G, pe, m => s_t (sE (.not a) G (and_tt m).1) (and_tt m).2
  | .t (.bop op es), X, W, G, pe, m => s_t (sE (.bop op es) G (and_tt m).1) (and_tt m).2
  | .t (.ife c a b), X, W, G, pe, m => s_t (sE (.ife c a b) G (and_tt m).1) (and_tt m).2
  | .t (.tup es), X, W, G, pe, m => s_t (sE (.tup es) G (and_tt m).1) (and_tt m).2
  | .t (.lst es), X, W, G, pe, m => s_t (sE (.lst es) G (and_tt m).1) (and_tt m).2
  | .t (.ix a b), X, W, G, pe, m => s_t (sE (.ix a b) G (and_tt m).1) (and_tt m).2
  | .t (.sl a lo hi), X, W, G, pe, m => s_t (sE (.sl a lo hi) G (and_tt m).1) (and_tt m).2
  | .t (.call f es), X, W, G, pe, m => s_t (sE (.call f es) G (and_tt m).1) (and_tt m).2
  | .t (.blt f es), X, W, G, pe, m => s_t (sE (.blt f es) G (and_tt m).1) (and_tt m).2
  | .t (.lc elt tg it cond), X, W, G, pe, m => s_t (sE (.lc elt tg it cond) G (and_tt m).1) (and_tt m).2
  | .not c, X, W, G, pe, m => by
    unfold mCd at m; split at m
    · exact s_tnot (sC c G m)
    · exact ff m
  | .bop op cs, X, W, G, pe, m => by
    unfold mCd at m; split at m
    · have q := and_tt m
      cases of_decide_eq_true q.1
      exact (sCs cs G q.2).pt
    · exact ff m
theorem sCs {N : Nms} {Γ : Ctx} {k : Nat} : ∀ (cs : List C) {X : Cx} {W : WX} (G : Gd X N Γ k W) {ps : List Expr} {op : BoolOp} {pos : Pos}, mCds N X.N X.env.scope cs ps = true → PW X (.BoolOp op ps pos) (tB X.K X.mg W (evCs Γ op cs))
  | [], X, W, G, ps, op, pos, m => by
    refine ⟨fun wh pins s σ H Q I w => ?_⟩
    obtain ⟨ρ, I', σT, h, hr, sr, n⟩ := w
    exact n.elim
  | [a], X, W, G, ps, op, pos, m => by
    match ps, m with
    | [pa], m => exact s_tb1 (sC a G (and_tt m).1)
    | _ :: _ :: _, m => exact ff (and_tt m).2
  | a :: b :: cs, X, W, G, ps, op, pos, m => by
    match ps, m with
    | pa :: pb :: ps, m => exact s_tb2 (sC a G (and_tt m).1) (sCs (b :: cs) G (and_tt m).2)
    | [_], m => exact ff (and_tt m).2
theorem sEs {N : Nms} {Γ : Ctx} {k : Nat} : ∀ (es : List E) {X : Cx} {W : WX} (G : Gd X N Γ k W) {ps : List Expr}, mEs N X.N X.env.scope es ps = true → ps.all notStar = true → PA X ps (tEs X.K X.mg W (evEs Γ es))
  | [], X, W, G, [], m, a => s_es0
  | e :: es, X, W, G, pa :: ps, m, a => by
    rw [List.all_cons] at a
    exact s_es1 (sE e G (and_tt m).1) (sEs es G (and_tt m).2 (and_tt a).2) (and_tt a).1
  | [], X, W, G, _ :: _, m, a => ff m
  | _ :: _, X, W, G, [], m, a => ff m
theorem sPs {N : Nms} {Γ : Ctx} {k : Nat} : ∀ (es : List E) {X : Cx} {W : WX} (G : Gd X N Γ k W) {ps : List Expr}, mEs N X.N X.env.scope es ps = true → ps.all notStar = true → PA X ps (tPs X.K X.mg W (evPs Γ es))
  | [], X, W, G, [], m, a => s_ps0
  | e :: es, X, W, G, pa :: ps, m, a => by
    rw [List.all_cons] at a
    exact s_ps1 (sE e G (and_tt m).1) (sPs es G (and_tt m).2 (and_tt a).2) (and_tt a).1
  | [], X, W, G, _ :: _, m, a => ff m
  | _ :: _, X, W, G, [], m, a => ff m
end
end VY
namespace VY
open PySem PySem.Spec
open PyProof.Rows hiding St
open L2
/-- a slot's own list -/
def Own (σT : Slots) (σ : St) (a : Addr) : Prop := ∃ (i : Nat) (l : List T), σT[i]? = some (some (.al l)) ∧ σ[i]? = some (some (.ref a))
structure SExt (ρ : List Addr) (I : Addr → Prop) (h : Hs) (H : Hp) (σT : Slots) (σ : St) (ρ' : List Addr) (I' : Addr → Prop) (h' : Hs) (H' : Hp) (σT' : Slots) (σ' : St) : Prop where
  pre : ∀ (n : Nat) (a : Addr), ρ[n]? = some a → ρ'[n]? = some a
  sub : ∀ a, I a → I' a
  keep : ∀ a, (H a).isSome → ¬ Live ρ h a → ¬ Own σT σ a → H' a = H a
  dom : ∀ a, (H a).isSome → (H' a).isSome
  inew : ∀ a, I' a → I a ∨ H a = none ∨ Live ρ h a ∨ Own σT σ a
  lnew : ∀ a, Live ρ' h' a → Live ρ h a ∨ H a = none ∨ Own σT σ a
  onew : ∀ a, Own σT' σ' a → Own σT σ a ∨ H a = none
section
variable {K : PySem.W.Frag} {mg : Str → Option Value} {ρ ρ' ρ'' : List Addr} {I I' I'' : Addr → Prop} {h h' h'' : Hs} {H H' H'' H0 : Hp} {σT σT' σT'' : Slots} {σ σ' σ'' : St} {W W' : WX}
theorem none_or {o : Option HO} : o = none ∨ o.isSome := by cases o; exact .inl rfl; exact .inr rfl
theorem SExt.of (x : Ext ρ I h H ρ' I' h' H') : SExt ρ I h H σT σ ρ' I' h' H' σT σ :=
  ⟨x.pre, x.sub, fun a d l _ => x.keep a d l, x.dom, fun a i => (x.inew a i).imp id fun z => z.imp id .inl, fun a l => (x.lnew a l).imp id .inl, fun a o => .inl o⟩
theorem SExt.refl : SExt ρ I h H σT σ ρ I h H σT σ := .of .refl
theorem SExt.trans (a : SExt ρ I h H σT σ ρ' I' h' H' σT' σ') (b : SExt ρ' I' h' H' σT' σ' ρ'' I'' h'' H'' σT'' σ'') : SExt ρ I h H σT σ ρ'' I'' h'' H'' σT'' σ'' where
  pre := fun n x e => b.pre n x (a.pre n x e)
  sub := fun x e => b.sub x (a.sub x e)
  keep := fun x d l o => by
    have l' : ¬ Live ρ' h' x := fun z => (a.lnew x z).elim l fun z => z.elim (not_none d) o
    have o' : ¬ Own σT' σ' x := fun z => (a.onew x z).elim o (not_none d)
    rw [b.keep x (a.dom x d) l' o', a.keep x d l o]
  dom := fun x d => b.dom x (a.dom x d)
  inew := fun x i => by
    rcases b.inew x i with z | z | z | z
    · exact a.inew x z
    · rcases none_or (o := H x) with d | d
      · exact .inr (.inl d)
      · exact (not_none (a.dom x d) z).elim
    · exact (a.lnew x z).elim (fun q => .inr (.inr (.inl q))) fun q => q.elim (fun q => .inr (.inl q)) fun q => .inr (.inr (.inr q))
    · exact (a.onew x z).elim (fun q => .inr (.inr (.inr q))) fun q => .inr (.inl q)
  lnew := fun x l => by
    rcases b.lnew x l with z | z | z
    · exact a.lnew x z
    · rcases none_or (o := H x) with d | d
      · exact .inr (.inl d)
      · exact (not_none (a.dom x d) z).elim
    · exact (a.onew x z).elim (fun q => .inr (.inr q)) fun q => .inr (.inl q)
  onew := fun x l => by
    rcases b.onew x l with z | z
    · exact a.onew x z
    · rcases none_or (o := H x) with d | d
      · exact .inr d
      · exact (not_none (a.dom x d) z).elim
theorem SR.own (s : SR K mg ρ I h H σT σ) {a : Addr} (o : Own σT σ a) : (H a).isSome ∧ ¬ I a ∧ ¬ Live ρ h a := by
  obtain ⟨i, l, e1, e2⟩ := o
  obtain ⟨b, vs, q, p, ni, nl, _⟩ := s.als i l e1
  rw [e2] at q
  cases q
  exact ⟨isSome_of p, ni, nl⟩
theorem SExt.ikeep (x : SExt ρ I h H σT σ ρ' I' h' H' σT' σ') (r : HR K mg ρ I h H) (s : SR K mg ρ I h H σT σ) {a : Addr} (i : I a) : H' a = H a := x.keep a (r.idom a i) (fun l => r.dis a l i) fun o => (s.own o).2.1 i
theorem SExt.kp (x : SExt ρ I h H σT σ ρ' I' h' H' σT' σ') (r : HR K mg ρ I h H) (s : SR K mg ρ I h H σT σ) : Kp ρ I H ρ' I' H' := ⟨x.pre, x.sub, fun _ i => x.ikeep r s i⟩
/-- what a return gives -/
def RS (K : PySem.W.Frag) (mg : Str → Option Value) (ρ : List Addr) (I : Addr → Prop) (h : Hs) (H : Hp) (H0 : Hp) (σT : Slots) (σ : St) (v : V) : R → Prop
  | .v t => Rep K mg ρ I H v t
  | .al l => ∃ a vs, v = .ref a ∧ (H0 a = none ∨ Own σT σ a) ∧ H a = some (.lst vs) ∧ ¬ I a ∧ ¬ Live ρ h a ∧ Reps K mg ρ I H vs l
  | .bw _ => False
/-- behind a statement -/
def NS (K : PySem.W.Frag) (mg : Str → Option Value) (W : WX) (ρ : List Addr) (I : Addr → Prop) (h : Hs) (H : Hp) (σT : Slots) (σ : St) (o : SO) (D : Ends) : Prop :=
  match o with
  | .ok f σT' h' => ∀ ρ' I' H' σ', SExt ρ I h H σT σ ρ' I' h' H' σT' σ' → HR K mg ρ' I' h' H' → SR K mg ρ' I' h' H' σT' σ' → match f with
    | .nx => D.nx σ' H'
    | .brk => D.bk σ' H'
    | .ct => D.ct σ' H'
    | .ret r => ∀ v, RS K mg ρ' I' h' H' H σT σ v r → D.rt v H'
  | .ex x σT' h' => ∀ cls d ρ' I' H' σ', SExt ρ I h H σT σ ρ' I' h' H' σT' σ' → HR K mg ρ' I' h' H' → SR K mg ρ' I' h' H' σT' σ' → XR K mg ρ' I' H' cls d x → W cls d σ' H'
  | .bad => False
def tS (K : PySem.W.Frag) (mg : Str → Option Value) (W : WX) (f : Slots → Hs → SO) : TS := fun D σ H => ∃ ρ I σT h, HR K mg ρ I h H ∧ SR K mg ρ I h H σT σ ∧ NS K mg W ρ I h H σT σ (f σT h) D
theorem RS.back {v : V} {r : R} (o : RS K mg ρ'' I'' h'' H'' H' σT' σ' v r) (x : SExt ρ I h H σT σ ρ' I' h' H' σT' σ') : RS K mg ρ'' I'' h'' H'' H σT σ v r := by
  cases r with
  | v t => exact o
  | al l =>
    obtain ⟨a, vs, e, n, q⟩ := o
    refine ⟨a, vs, e, ?_, q⟩
    rcases n with n | n
    · rcases none_or (o := H a) with d | d
      · exact .inl d
      · exact (not_none (x.dom a d) n).elim
    · exact (x.onew a n).symm
  | bw i => exact o
/-- started later -/
theorem NS.from {o : SO} {D : Ends} (n : NS K mg W ρ I h H σT σ o D) (x : SExt ρ I h H σT σ ρ' I' h' H' σT' σ') : NS K mg W ρ' I' h' H' σT' σ' o D := by
  cases o with
  | ok f σ2 h2 =>
    intro ρ2 I2 H2 σ2' x2 r2 s2
    have q := n ρ2 I2 H2 σ2' (x.trans x2) r2 s2
    cases f with
    | ret r => exact fun v z => q v (z.back x)
    | _ => exact q
  | ex y σ2 h2 => exact fun cls d ρ2 I2 H2 σ2' x2 r2 s2 => n cls d ρ2 I2 H2 σ2' (x.trans x2) r2 s2
  | bad => exact n
/-- behind an expression -/
theorem NS.sb {α : Type} {o : Out α} {k : α → Hs → SO} {D : Ends} (n : NS K mg W ρ I h H σT σ (sb σT o k) D) (sr : SR K mg ρ I h H σT σ) (hr : HR K mg ρ I h H) :
    Nx K mg W σ ρ I h H o fun a h' ρ' I' H' => NS K mg W ρ I h H σT σ (k a h') D := by
  cases o with
  | ok a h1 => exact fun ρ1 I1 H1 x1 r1 => n
  | ex y h1 => exact fun cls d ρ1 I1 H1 x1 r1 z => n cls d ρ1 I1 H1 σ (.of x1) r1 (sr.ext hr x1) z
  | bad => exact n
/-- .. at slots of its own -/
theorem NS.sb' {α : Type} {o : Out α} {k : α → Hs → SO} {D : Ends} (n : NS K mg W ρ I h H σT σ (VY.sb σT' o k) D) (x : SExt ρ I h H σT σ ρ' I' h' H' σT' σ') (sr : SR K mg ρ' I' h' H' σT' σ') (hr : HR K mg ρ' I' h' H') :
    Nx K mg W σ' ρ' I' h' H' o fun a h2 _ _ _ => NS K mg W ρ I h H σT σ (k a h2) D := by
  cases o with
  | ok a h1 => exact fun ρ1 I1 H1 x1 r1 => n
  | ex y h1 => exact fun cls d ρ1 I1 H1 x1 r1 z => n cls d ρ1 I1 H1 σ' (x.trans (.of x1)) r1 (sr.ext hr x1) z
  | bad => exact n
theorem NS.nx {D : Ends} (n : NS K mg W ρ I h H σT σ (.ok .nx σT' h') D) : ∀ ρ' I' H' σ', SExt ρ I h H σT σ ρ' I' h' H' σT' σ' → HR K mg ρ' I' h' H' → SR K mg ρ' I' h' H' σT' σ' → D.nx σ' H' := n
theorem NS.rt {D : Ends} {r : R} (n : NS K mg W ρ I h H σT σ (.ok (.ret r) σT' h') D) : ∀ ρ' I' H' σ' v, SExt ρ I h H σT σ ρ' I' h' H' σT' σ' → HR K mg ρ' I' h' H' → SR K mg ρ' I' h' H' σT' σ' → RS K mg ρ' I' h' H' H σT σ v r → D.rt v H' := fun ρ' I' H' σ' v x r s q => n ρ' I' H' σ' x r s v q
theorem get_set {α : Type} {l : List (Option α)} {i j : Nat} {x y : Option α} (e : (l.set i x)[j]? = some y) : (i = j ∧ i < l.length ∧ x = y) ∨ (i ≠ j ∧ l[j]? = some y) := by
  by_cases c : i = j
  · subst c
    by_cases hi : i < l.length
    · rw [List.getElem?_set_self hi] at e
      exact .inl ⟨rfl, hi, Option.some.inj e⟩
    · rw [List.getElem?_eq_none (by rw [List.length_set]; omega)] at e; cases e
  · rw [List.getElem?_set_ne c] at e
    exact .inr ⟨c, e⟩
/-- a slot takes a list that nobody else holds -/
theorem SR.setA (s : SR K mg ρ I h H σT σ) {a : Addr} {vs : List V} {l : List T} (p : H a = some (.lst vs)) (ni : ¬ I a) (nl : ¬ Live ρ h a) (w : Reps K mg ρ I H vs l) (i : Nat)
    (no : ∀ (j : Nat) (m : List T), j ≠ i → σT[j]? = some (some (.al m)) → σ[j]? = some (some (.ref a)) → False) : SR K mg ρ I h H (σT.set i (some (.al l))) (σ.set i (some (.ref a))) where
  len := by rw [List.length_set, List.length_set]; exact s.len
  vs := fun j u e => by
    rcases get_set e with ⟨_, _, z⟩ | ⟨c, z⟩
    · cases z
    · rw [List.getElem?_set_ne c]; exact s.vs j u z
  als := fun j m e => by
    rcases get_set e with ⟨c, hi, z⟩ | ⟨c, z⟩
    · subst c
      cases z
      exact ⟨a, vs, List.getElem?_set_self (by rw [← s.len]; exact hi), p, ni, nl, w⟩
    · rw [List.getElem?_set_ne c]; exact s.als j m z
  adj := fun j j' m m' b e1 e2 e3 e4 => by
    rcases get_set e1 with ⟨c, hi, z⟩ | ⟨c, z⟩ <;> rcases get_set e2 with ⟨c', hi', z'⟩ | ⟨c', z'⟩
    · exact c.symm.trans c'
    · subst c
      rw [List.getElem?_set_self (by rw [← s.len]; exact hi)] at e3
      rw [List.getElem?_set_ne c'] at e4
      cases e3
      exact (no j' m' (Ne.symm c') z' e4).elim
    · subst c'
      rw [List.getElem?_set_self (by rw [← s.len]; exact hi')] at e4
      rw [List.getElem?_set_ne c] at e3
      cases e4
      exact (no j m (Ne.symm c) z e3).elim
    · rw [List.getElem?_set_ne c] at e3
      rw [List.getElem?_set_ne c'] at e4
      exact s.adj j j' m m' b z z' e3 e4
theorem own_set {i : Nat} {t : T} {v : V} {a : Addr} (o : Own (σT.set i (some (.v t))) (σ.set i (some v)) a) : Own σT σ a := by
  obtain ⟨j, l, e1, e2⟩ := o
  rcases get_set e1 with ⟨_, _, z⟩ | ⟨c, z⟩
  · cases z
  · rw [List.getElem?_set_ne c] at e2; exact ⟨j, l, z, e2⟩
theorem own_setA {i : Nat} {l : List T} {b a : Addr} (o : Own (σT.set i (some (.al l))) (σ.set i (some (.ref b))) a) : Own σT σ a ∨ a = b := by
  obtain ⟨j, m, e1, e2⟩ := o
  rcases get_set e1 with ⟨c, hi, z⟩ | ⟨c, z⟩
  · subst c
    rcases get_set e2 with ⟨_, _, z'⟩ | ⟨c, _⟩
    · cases z'; exact .inr rfl
    · exact (c rfl).elim
  · rw [List.getElem?_set_ne c] at e2; exact .inl ⟨j, m, z, e2⟩
/-- what an expression gave, stored: x from the statement's start -/
theorem put_ok {v : V} {r : R} {s : Sl} {i : Nat} (x : Ext ρ I h H ρ' I' h' H') (r' : HR K mg ρ' I' h' H') (sr : SR K mg ρ' I' h' H' σT σ) (sr0 : SR K mg ρ I h H σT σ) (o : RO K mg ρ' I' h' H' H σT σ v r) (e : putR r = some s) :
    SExt ρ I h H σT σ ρ' I' h' H' (σT.set i (some s)) (σ.set i (some v)) ∧ SR K mg ρ' I' h' H' (σT.set i (some s)) (σ.set i (some v)) := by
  have x0 : SExt ρ I h H σT σ ρ' I' h' H' σT σ := .of x
  cases r with
  | v t => cases e; exact ⟨{ x0 with onew := fun a z => .inl (own_set z) }, sr.set o i⟩
  | al l =>
    cases e
    obtain ⟨a, vs, rfl, n, p, ni, nl, w⟩ := o
    refine ⟨{ x0 with onew := fun b z => (own_setA z).imp id fun q => by rw [q]; exact n }, sr.setA p ni nl w i fun j m _ e1 e2 => ?_⟩
    exact not_none (sr0.own ⟨j, m, e1, e2⟩).1 n
  | bw i => cases e
end
mutual
theorem asg_own : ∀ (g : Tg) (t : T) {σT σT' : Slots}, asgT g t σT = some σT' → ∀ (i : Nat) (l : List T), σT'[i]? = some (some (.al l)) → σT[i]? = some (some (.al l)) ∧ i ∉ g.ixs
  | .nm j, t, σT, σT', e, i, l, z => by
    cases e
    rcases get_set z with ⟨_, _, q⟩ | ⟨c, q⟩
    · cases q
    · exact ⟨q, by simpa [Tg.ixs] using fun e => c e.symm⟩
  | .tp gs, .tup ts, σT, σT', e, i, l, z => asgs_own gs ts e i l z
  | .tp gs, .non, _, _, e, _, _, _ => nomatch e
  | .tp gs, .bl _, _, _, e, _, _, _ => nomatch e
  | .tp gs, .int _, _, _, e, _, _, _ => nomatch e
  | .tp gs, .str _, _, _, e, _, _, _ => nomatch e
  | .tp gs, .ty _, _, _, e, _, _, _ => nomatch e
  | .tp gs, .gl _, _, _, e, _, _, _ => nomatch e
  | .tp gs, .ref _, _, _, e, _, _, _ => nomatch e
  | .tp gs, .lst _, _, _, e, _, _, _ => nomatch e
  | .tp gs, .slst _, _, _, e, _, _, _ => nomatch e
  | .tp gs, .dct _, _, _, e, _, _, _ => nomatch e
theorem asgs_own : ∀ (gs : List Tg) (ts : List T) {σT σT' : Slots}, asgTs gs ts σT = some σT' → ∀ (i : Nat) (l : List T), σT'[i]? = some (some (.al l)) → σT[i]? = some (some (.al l)) ∧ i ∉ ixss gs
  | [], [], σT, σT', e, i, l, z => by cases e; exact ⟨z, by simp [ixss]⟩
  | g :: gs, t :: ts, σT, σT', e, i, l, z => by
    rw [asgTs] at e
    cases y : asgT g t σT with
    | none => rw [y] at e; cases e
    | some σ1 =>
      rw [y] at e
      obtain ⟨q1, n1⟩ := asgs_own gs ts e i l z
      obtain ⟨q2, n2⟩ := asg_own g t y i l q1
      exact ⟨q2, by rw [ixss, List.mem_append]; exact fun z => z.elim n2 n1⟩
  | [], _ :: _, _, _, e, _, _, _ => nomatch e
  | _ :: _, [], _, _, e, _, _, _ => nomatch e
end
section
variable {K : PySem.W.Frag} {mg : Str → Option Value} {ρ ρ' ρ'' : List Addr} {I I' I'' : Addr → Prop} {h h' h'' : Hs} {H H' H'' H0 : Hp} {σT σT' σT'' : Slots} {σ σ' σ'' : St} {W W' : WX}
theorem asg_ext {g : Tg} {t : T} (e : asgT g t σT = some σT') (ew : L2.wipe σ' g.ixs = L2.wipe σ g.ixs) (x : Ext ρ I h H ρ' I' h' H') : SExt ρ I h H σT σ ρ' I' h' H' σT' σ' := by
  have x0 : SExt ρ I h H σT σ ρ' I' h' H' σT σ := .of x
  refine { x0 with onew := fun a ⟨j, l, e1, e2⟩ => .inl ?_ }
  obtain ⟨q1, n1⟩ := asg_own g t e j l e1
  have q2 : (L2.wipe σ' g.ixs)[j]? = (L2.wipe σ g.ixs)[j]? := by rw [ew]
  rw [wipe_get, wipe_get, if_neg n1, if_neg n1] at q2
  exact ⟨j, l, q1, q2.symm.trans e2⟩
end
section
variable {X : Cx} {N : Nms} {Γ : Ctx} {k : Nat} {W : WX} {e o i : E} {pe po pi pg : Expr} {pos : Pos}
/-- a function's context -/
structure Gs (X : Cx) (N : Nms) (Γ : Ctx) (k : Nat) (W : WX) : Prop extends Gd X N Γ k W where
  kind : X.env.scope.kind = .function
  fnl : ∀ x, X.fn x = true
  po : PassesOwn (model X.prog X.w) X.A X.env X.xe
theorem Gs.loc (G : Gs X N Γ k W) (x : Str) (m : locB X.env.scope x = true) : Loc X.env.scope x ∧ (X.fn x = true ∨ X.env.scope.names.lookup x = some .local) := ⟨loc_of m, .inl (G.fnl x)⟩
/-- the reading of x = e, whatever the form -/
theorem asg_read {j : Nat} {D : Ends} {σ : St} {H : Hp} (q : tS X.K X.mg W (evS Γ (.asg j e)) D σ H) : tD X.K X.mg W (evE Γ e) σ H fun v H1 => gName j v σ H1 D.nx := by
  obtain ⟨ρ, I, σT, h, hr, sr, n⟩ := q
  rw [evS] at n
  refine ⟨ρ, I, σT, h, hr, sr, (n.sb sr hr).imp fun r h1 ρ1 I1 H1 x1 r1 n1 v o1 => ?_⟩
  cases z : putR r with
  | none => rw [z] at n1; exact n1.elim
  | some s =>
    rw [z] at n1
    obtain ⟨x2, s2⟩ := put_ok (i := j) x1 r1 (sr.ext hr x1) sr o1 z
    exact n1.nx ρ1 I1 H1 _ x2 r1 s2
theorem s_asg (G : Gs X N Γ k W) {j : Nat} {x : Str} {p : Pos} (hi : X.N[j]? = some x) (hl : locB X.env.scope x = true) (he : PE X pe (tD X.K X.mg W (evE Γ e))) (hs : swapsWith pe (some (.Name x p)) pos.line X.env = pure false) :
    PS X (.Assign [.Name x p] pe pos) (tS X.K X.mg W (evS Γ (.asg j e))) :=
  PS.imp (ps_set G.nd hi (loc_of hl) he hs (.inl (G.fnl x))) fun D σ H q => asg_read q
theorem s_asgT (G : Gs X N Γ k W) {tg : Tg} (hg : mTg X.env.scope X.N tg pg = true) (he : PE X pe (tD X.K X.mg W (evE Γ e))) (hs : swapsWithSole [pg] pe pos.line X.env = pure false) (hw : swappedStores [pg] pe X.env = pure none) (h1 : (assignEach [pg] X.env).map (·.2) = [assign pg X.env]) :
    PS X (.Assign [pg] pe pos) (tS X.K X.mg W (evS Γ (.asgT tg e))) := by
  refine PS.imp (ps_asg he (s_tg G.calm G.nd G.loc tg.ixs tg pg hg fun _ z => z) hs hw h1) ?_
  rintro D σ H ⟨ρ, I, σT, h, hr, sr, n⟩
  rw [evS] at n
  refine ⟨ρ, I, σT, h, hr, sr, (n.sb sr hr).imp' fun r h1 ρ1 I1 H1 x1 r1 n0 v o1 => ?_⟩
  cases z : frz r with
  | none => have n1 := n0 ρ1 I1 H1 x1 r1; rw [z] at n1; exact n1.elim
  | some t =>
    obtain ⟨I2, x2, r2, q2⟩ := o1.keep x1 r1 z
    have n1 := n0 ρ1 I2 H1 x2 r2
    rw [z] at n1
    have n2 : NS X.K X.mg W ρ I h H σT σ (liftS (asgT tg t σT) h1) D := n1
    cases y : asgT tg t σT with
    | none => rw [y] at n2; exact n2.elim
    | some σ2 =>
      rw [y] at n2
      exact ⟨ρ1, I2, σT, h1, t, σ2, r2, sr.ext hr x2, q2, y, fun σ' s' ew => n2.nx ρ1 I2 H1 σ' (asg_ext y ew x2) r2 s'⟩
theorem s_expr (he : PE X pe (tD X.K X.mg W (evE Γ e))) (hs : swapsWith pe none pos.line X.env = pure false) : PS X (.Expr pe pos) (tS X.K X.mg W (evS Γ (.expr e))) := by
  refine PS.imp (ps_expr he hs) ?_
  rintro D σ H ⟨ρ, I, σT, h, hr, sr, n⟩
  rw [evS] at n
  exact ⟨ρ, I, σT, h, hr, sr, (n.sb sr hr).imp fun r h1 ρ1 I1 H1 x1 r1 n1 v o1 => n1.nx ρ1 I1 H1 σ (.of x1) r1 (sr.ext hr x1)⟩
theorem s_ret (he : PE X pe (tD X.K X.mg W (evE Γ e))) : PS X (.Return (some pe) pos) (tS X.K X.mg W (evS Γ (.ret e))) := by
  refine PS.imp (ps_ret he) ?_
  rintro D σ H ⟨ρ, I, σT, h, hr, sr, n⟩
  rw [evS] at n
  refine ⟨ρ, I, σT, h, hr, sr, (n.sb sr hr).imp fun r h1 ρ1 I1 H1 x1 r1 n1 v o1 => ?_⟩
  cases r with
  | v t => exact n1.rt ρ1 I1 H1 σ v (.of x1) r1 (sr.ext hr x1) o1
  | al l =>
    obtain ⟨a, vs, e, n, q⟩ := o1
    exact n1.rt ρ1 I1 H1 σ v (.of x1) r1 (sr.ext hr x1) ⟨a, vs, e, .inl n, q⟩
  | bw j => exact n1.elim
theorem s_retS {j : Nat} {x : Str} {p : Pos} (hi : X.N[j]? = some x) (hv : visB X.env.scope x = true) (hp : plainN x = true) : PS X (.Return (some (.Name x p)) pos) (tS X.K X.mg W (evS Γ (.retS j))) := by
  refine PS.imp (ps_ret (pe_var hi (vis_of hv) (plain_dbg hp).1 (plain_dbg hp).2)) ?_
  rintro D σ H ⟨ρ, I, σT, h, hr, sr, n⟩
  rw [evS] at n
  split at n
  · rename_i l e
    obtain ⟨a, vs, q, p, ni, nl, w⟩ := sr.als j l e
    refine ⟨.ref a, q, ?_⟩
    have own : Own σT σ a := ⟨j, l, e, q⟩
    refine n.rt ρ I H (σ.set j none) (.ref a) { (SExt.refl : SExt ρ I h H σT σ ρ I h H σT σ) with onew := fun b ⟨i, m, e1, e2⟩ => ?_ } hr (sr.clr j none) ⟨a, vs, rfl, .inr own, p, ni, nl, w⟩
    rcases get_set e1 with ⟨_, _, z⟩ | ⟨c, z⟩
    · cases z
    · rw [List.getElem?_set_ne c] at e2; exact .inl ⟨i, m, z, e2⟩
  · exact n.elim
theorem s_retN : PS X (.Return none pos) (tS X.K X.mg W (evS Γ .retN)) := by
  refine PS.imp ps_retN ?_
  rintro D σ H ⟨ρ, I, σT, h, hr, sr, n⟩
  exact NS.rt n ρ I H σ .non .refl hr sr rfl
theorem s_pass : PS X (.Pass pos) (tS X.K X.mg W (evS Γ .pass)) := PS.imp ps_pass fun D σ H ⟨ρ, I, σT, h, hr, sr, n⟩ => NS.nx n ρ I H σ .refl hr sr
theorem s_brk : PS X (.Break pos) (tS X.K X.mg W (evS Γ .brk)) := PS.imp ps_break fun D σ H ⟨ρ, I, σT, h, hr, sr, n⟩ => n ρ I H σ .refl hr sr
theorem s_cnt : PS X (.Continue pos) (tS X.K X.mg W (evS Γ .cnt)) := PS.imp ps_continue fun D σ H ⟨ρ, I, σT, h, hr, sr, n⟩ => n ρ I H σ .refl hr sr
end
end VY
namespace VY
open PySem PySem.Spec
open PyProof.Rows hiding St
open L2
section
variable {K : PySem.W.Frag} {mg : Str → Option Value} {ρ ρ' ρ'' : List Addr} {I I' I'' : Addr → Prop} {h h' h'' : Hs} {H H' H'' H0 : Hp} {σT σT' σT'' : Slots} {σ σ' σ'' : St} {W W' : WX}
theorem NS.seq {o : SO} {k : Slots → Hs → SO} {D : Ends} (n : NS K mg W ρ I h H σT σ (o.seq k) D) : NS K mg W ρ I h H σT σ o { D with nx := tS K mg W k D } := by
  cases o with
  | ok f σ2 h2 =>
    cases f with
    | nx => exact fun ρ1 I1 H1 σ1 x1 r1 s1 => ⟨ρ1, I1, σ2, h2, r1, s1, NS.from (show NS K mg W ρ I h H σT σ (k σ2 h2) D from n) x1⟩
    | brk => exact n
    | ct => exact n
    | ret r => exact n
  | ex y σ2 h2 => exact n
  | bad => exact n
/-- the n-th object is another one -/
theorem hr_set {n : Nat} {a : Addr} {u u' : HOb} {o : HO} (r : HR K mg ρ I h H) (ea : ρ[n]? = some a) (eh : h[n]? = some u) (nd : u ≠ .dead) (nd' : u' ≠ .dead)
    (q : ∀ H', (∀ b, I b → H' b = H b) → H' a = some o → RepO K mg ρ I H' a u') : HR K mg ρ I (h.set n u') (upd H a o) := by
  have hn : n < h.length := (List.getElem?_eq_some_iff.mp eh).1
  have la : Live ρ h a := ⟨n, u, ea, eh, nd⟩
  have ni : ¬ I a := r.dis a la
  have lv : ∀ b, Live ρ (h.set n u') b → Live ρ h b := fun b ⟨m, w, e1, e2, d⟩ => by
    by_cases c : n = m
    · subst c; rw [ea] at e1; cases e1; exact la
    · rw [List.getElem?_set_ne c] at e2; exact ⟨m, w, e1, e2, d⟩
  have kp : Kp ρ I H ρ I (upd H a o) := kp_at o ni
  refine ⟨by rw [List.length_set]; exact r.len, fun m m' b w w' e1 e2 e3 e4 d d' => ?_, fun b l => r.dis b (lv b l), fun b i => upd_dom (r.idom b i), fun m w b e1 e2 => ?_⟩
  · by_cases c : n = m <;> by_cases c' : n = m'
    · exact c.symm.trans c'
    · subst c
      rw [List.getElem?_set_ne c'] at e4
      exact r.inj n m' b u w' e1 e2 eh e4 nd d'
    · subst c'
      rw [List.getElem?_set_ne c] at e3
      exact r.inj m n b w u e1 e2 e3 eh d nd
    · rw [List.getElem?_set_ne c] at e3
      rw [List.getElem?_set_ne c'] at e4
      exact r.inj m m' b w w' e1 e2 e3 e4 d d'
  · by_cases c : n = m
    · subst c
      rw [List.getElem?_set_self hn] at e1
      cases e1
      rw [ea] at e2
      cases e2
      exact q _ (fun b i => upd_ne fun z => ni (z ▸ i)) upd_same
    · rw [List.getElem?_set_ne c] at e1
      refine (r.obj m w b e1 e2).mono kp fun d => upd_ne fun z => ?_
      subst z
      exact c (r.inj n m b u w ea e2 eh e1 nd d)
theorem ext_set {n : Nat} {a : Addr} {u u' : HOb} {o : HO} (x : SExt ρ I h H σT σ ρ' I' h' H' σT' σ') (ea : ρ'[n]? = some a) (eh : h'[n]? = some u) (nd : u ≠ .dead) : SExt ρ I h H σT σ ρ' I' (h'.set n u') (upd H' a o) σT' σ' := by
  have la : Live ρ' h' a := ⟨n, u, ea, eh, nd⟩
  have lv : ∀ b, Live ρ' (h'.set n u') b → Live ρ' h' b := fun b ⟨m, w, e1, e2, d⟩ => by
    by_cases c : n = m
    · subst c; rw [ea] at e1; cases e1; exact la
    · rw [List.getElem?_set_ne c] at e2; exact ⟨m, w, e1, e2, d⟩
  refine ⟨x.pre, x.sub, fun b d l w => ?_, fun b d => upd_dom (x.dom b d), x.inew, fun b l => x.lnew b (lv b l), x.onew⟩
  rw [upd_ne (fun z => by subst z; exact (x.lnew b la).elim l fun z => z.elim (not_none d) w)]
  exact x.keep b d l w
theorem sr_set {n : Nat} {a : Addr} {u u' : HOb} {o : HO} (s : SR K mg ρ I h H σT σ) (r : HR K mg ρ I h H) (ea : ρ[n]? = some a) (eh : h[n]? = some u) (nd : u ≠ .dead) : SR K mg ρ I (h.set n u') (upd H a o) σT σ := by
  have la : Live ρ h a := ⟨n, u, ea, eh, nd⟩
  have kp : Kp ρ I H ρ I (upd H a o) := kp_at o (r.dis a la)
  have lv : ∀ b, Live ρ (h.set n u') b → Live ρ h b := fun b ⟨m, w, e1, e2, d⟩ => by
    by_cases c : n = m
    · subst c; rw [ea] at e1; cases e1; exact la
    · rw [List.getElem?_set_ne c] at e2; exact ⟨m, w, e1, e2, d⟩
  refine ⟨s.len, fun i t e => let ⟨v, q, p⟩ := s.vs i t e; ⟨v, q, p.mono kp⟩, fun i l e => ?_, s.adj⟩
  obtain ⟨b, vs, q, p, ni, nl, w⟩ := s.als i l e
  exact ⟨b, vs, q, (upd_ne fun z => by subst z; exact nl la).trans p, ni, fun z => nl (lv b z), w.mono kp⟩
/-- a slot's own list is another one -/
theorem own_upd {i : Nat} {l l' : List T} {a : Addr} {vs : List V} (x : SExt ρ I h H σT σ ρ' I' h' H' σT' σ') (s : SR K mg ρ' I' h' H' σT' σ') (r : HR K mg ρ' I' h' H') (e : σT'[i]? = some (some (.al l))) (ea : σ'[i]? = some (some (.ref a)))
    (w : Reps K mg ρ' I' H' vs l') : SExt ρ I h H σT σ ρ' I' h' (upd H' a (.lst vs)) (σT'.set i (some (.al l'))) σ' ∧ HR K mg ρ' I' h' (upd H' a (.lst vs)) ∧ SR K mg ρ' I' h' (upd H' a (.lst vs)) (σT'.set i (some (.al l'))) σ' := by
  have oa : Own σT' σ' a := ⟨i, l, e, ea⟩
  obtain ⟨d, ni, nl⟩ := s.own oa
  have kp : Kp ρ' I' H' ρ' I' (upd H' a (.lst vs)) := kp_at _ ni
  have same : ∀ b, Own (σT'.set i (some (.al l'))) σ' b → Own σT' σ' b := fun b ⟨j, m, e1, e2⟩ => by
    rcases get_set e1 with ⟨c, _, _⟩ | ⟨c, z⟩
    · subst c; exact ⟨i, l, e, e2⟩
    · exact ⟨j, m, z, e2⟩
  refine ⟨⟨x.pre, x.sub, fun b db l w => ?_, fun b db => upd_dom (x.dom b db), x.inew, x.lnew, fun b o => x.onew b (same b o)⟩, hr_at _ r ni nl, ?_⟩
  · rw [upd_ne (fun z => by subst z; exact (x.onew b oa).elim w (not_none db))]
    exact x.keep b db l w
  · refine ⟨by rw [List.length_set]; exact s.len, fun j t z => ?_, fun j m z => ?_, fun j j' m m' b e1 e2 e3 e4 => ?_⟩
    · rcases get_set z with ⟨_, _, c⟩ | ⟨c, z⟩
      · cases c
      · obtain ⟨v, q, p⟩ := s.vs j t z; exact ⟨v, q, p.mono kp⟩
    · rcases get_set z with ⟨c, _, y⟩ | ⟨c, z⟩
      · subst c
        cases y
        exact ⟨a, vs, ea, upd_same, ni, nl, w.mono kp⟩
      · obtain ⟨b, ws, q, p, ni', nl', w'⟩ := s.als j m z
        refine ⟨b, ws, q, (upd_ne fun y => ?_).trans p, ni', nl', w'.mono kp⟩
        subst y
        exact c (s.adj i j l m b e z ea q)
    · have f : ∀ {j : Nat} {m : List T}, (σT'.set i (some (.al l')))[j]? = some (some (.al m)) → ∃ m', σT'[j]? = some (some (.al m')) := fun {j m} z => by
        rcases get_set z with ⟨c, _, _⟩ | ⟨c, z⟩
        · subst c; exact ⟨l, e⟩
        · exact ⟨m, z⟩
      obtain ⟨_, f1⟩ := f e1
      obtain ⟨_, f2⟩ := f e2
      exact s.adj j j' _ _ b f1 f2 e3 e4
end
section
variable {X : Cx} {N : Nms} {Γ : Ctx} {k : Nat} {W : WX} {e o i : E} {pe po pi pg : Expr} {pos : Pos}
theorem s_ss0 : PSs X [] (tS X.K X.mg W (evSs Γ [])) := PSs.imp pss_nil fun D σ H ⟨ρ, I, σT, h, hr, sr, n⟩ => NS.nx n ρ I H σ .refl hr sr
theorem s_ss1 {s : S} {ss : List S} {ps : Stmt} {pss : List Stmt} (h1 : PS X ps (tS X.K X.mg W (evS Γ s))) (h2 : PSs X pss (tS X.K X.mg W (evSs Γ ss))) : PSs X (ps :: pss) (tS X.K X.mg W (evSs Γ (s :: ss))) := by
  refine PSs.imp (pss_cons h1 h2) ?_
  rintro D σ H ⟨ρ, I, σT, h, hr, sr, n⟩
  rw [evSs] at n
  exact ⟨ρ, I, σT, h, hr, sr, n.seq⟩
/-- a slot's list is kept as a value from now on -/
theorem s_fz {j : Nat} {ss : List S} {pss : List Stmt} (h2 : PSs X pss (tS X.K X.mg W (evSs Γ ss))) : PSs X pss (tS X.K X.mg W (evSs Γ (.fz j :: ss))) := by
  refine PSs.imp h2 ?_
  rintro D σ H ⟨ρ, I, σT, h, hr, sr, n⟩
  rw [evSs, evS] at n
  split at n
  · rename_i l e
    obtain ⟨a, vs, q, p, ni, nl, w⟩ := sr.als j l e
    have oa : Own σT σ a := ⟨j, l, e, q⟩
    have x : SExt ρ I h H σT σ ρ (Iw I a) h H (σT.set j (some (.v (.lst l)))) σ := by
      refine ⟨fun _ _ e => e, fun _ e => .inl e, fun _ _ _ _ => rfl, fun _ e => e, fun b i => i.elim .inl fun z => .inr (.inr (.inr (z ▸ oa))), fun b l => .inl l, fun b ⟨i, m, e1, e2⟩ => ?_⟩
      rcases get_set e1 with ⟨_, _, z⟩ | ⟨c, z⟩
      · cases z
      · exact .inl ⟨i, m, z, e2⟩
    refine ⟨ρ, Iw I a, σT.set j (some (.v (.lst l))), h, hr.hold nl (isSome_of p), ?_, n.from x⟩
    refine ⟨by rw [List.length_set]; exact sr.len, fun i t z => ?_, fun i m z => ?_, fun i i' m m' b e1 e2 e3 e4 => ?_⟩
    · rcases get_set z with ⟨c, _, y⟩ | ⟨c, z⟩
      · subst c
        cases y
        exact ⟨.ref a, q, a, vs, rfl, .inr rfl, p, w.mono kp_hold⟩
      · obtain ⟨v, q, p⟩ := sr.vs i t z; exact ⟨v, q, p.mono kp_hold⟩
    · rcases get_set z with ⟨_, _, y⟩ | ⟨c, z⟩
      · cases y
      · obtain ⟨b, ws, q', p', ni', nl', w'⟩ := sr.als i m z
        refine ⟨b, ws, q', p', fun y => y.elim ni' fun y => ?_, nl', w'.mono kp_hold⟩
        subst y
        exact c (sr.adj j i l m b e z q q')
    · rcases get_set e1 with ⟨_, _, z⟩ | ⟨c, z⟩
      · cases z
      · rcases get_set e2 with ⟨_, _, z'⟩ | ⟨c', z'⟩
        · cases z'
        · exact sr.adj i i' m m' b z z' e3 e4
  · exact n.elim
/-- a slot's list is an object of the heap from now on -/
theorem hr_push {a : Addr} {vs : List V} {l : List T} {K : PySem.W.Frag} {mg : Str → Option Value} {ρ : List Addr} {I : Addr → Prop} {h : Hs} {H : Hp} (r : HR K mg ρ I h H) (p : H a = some (.lst vs)) (ni : ¬ I a) (nl : ¬ Live ρ h a) (w : Reps K mg ρ I H vs l) :
    HR K mg (ρ ++ [a]) I (h ++ [.lst l]) H ∧ (∀ b, Live (ρ ++ [a]) (h ++ [.lst l]) b → Live ρ h b ∨ b = a) := by
  have ix : ∀ {n : Nat} {b : Addr}, (ρ ++ [a])[n]? = some b → (n < ρ.length ∧ ρ[n]? = some b) ∨ (n = ρ.length ∧ b = a) := fun {n b} e => by
    by_cases hn : n < ρ.length
    · rw [List.getElem?_append_left hn] at e; exact .inl ⟨hn, e⟩
    · rw [List.getElem?_append_right (by omega)] at e
      have z : n - ρ.length = 0 := by
        have := (List.getElem?_eq_some_iff.mp e).1
        simp at this
        omega
      rw [z] at e
      cases e
      exact .inr ⟨by omega, rfl⟩
  have jx : ∀ {n : Nat} {o : HOb}, n < ρ.length → (h ++ [HOb.lst l])[n]? = some o → h[n]? = some o := fun {n o} hn e => by
    rw [List.getElem?_append_left (by rw [← r.len]; exact hn)] at e; exact e
  have kx : ∀ {o : HOb}, (h ++ [HOb.lst l])[ρ.length]? = some o → o = .lst l := fun {o} e => by
    rw [r.len, List.getElem?_append_right (Nat.le_refl _), Nat.sub_self] at e
    cases e; rfl
  have kp : Kp ρ I H (ρ ++ [a]) I H := ⟨fun n b e => by rw [List.getElem?_append_left (List.getElem?_eq_some_iff.mp e).1]; exact e, fun _ e => e, fun _ _ => rfl⟩
  have lv : ∀ b, Live (ρ ++ [a]) (h ++ [.lst l]) b → Live ρ h b ∨ b = a := fun b ⟨n, o, e1, e2, d⟩ => by
    rcases ix e1 with ⟨hn, e⟩ | ⟨_, e⟩
    · exact .inl ⟨n, o, e, jx hn e2, d⟩
    · exact .inr e
  refine ⟨⟨by rw [List.length_append, List.length_append, r.len]; rfl, fun n m b o o' e1 e2 e3 e4 d d' => ?_, fun b l i => (lv b l).elim (fun z => r.dis b z i) fun z => ni (z ▸ i), r.idom, fun n o b e1 e2 => ?_⟩, lv⟩
  · rcases ix e1 with ⟨hn, f1⟩ | ⟨hn, f1⟩ <;> rcases ix e2 with ⟨hm, f2⟩ | ⟨hm, f2⟩
    · exact r.inj n m b o o' f1 f2 (jx hn e3) (jx hm e4) d d'
    · subst f2; exact (nl ⟨n, o, f1, jx hn e3, d⟩).elim
    · subst f1; exact (nl ⟨m, o', f2, jx hm e4, d'⟩).elim
    · omega
  · rcases ix e2 with ⟨hn, f1⟩ | ⟨hn, f1⟩
    · exact (r.obj n o b (jx hn e1) f1).mono kp fun _ => rfl
    · subst f1 hn
      rw [kx e1]
      exact ⟨vs, p, w.mono kp⟩
theorem s_pr {j : Nat} {ss : List S} {pss : List Stmt} (h2 : PSs X pss (tS X.K X.mg W (evSs Γ ss))) : PSs X pss (tS X.K X.mg W (evSs Γ (.pr j :: ss))) := by
  refine PSs.imp h2 ?_
  rintro D σ H ⟨ρ, I, σT, h, hr, sr, n⟩
  rw [evSs, evS] at n
  split at n
  · rename_i l e
    obtain ⟨a, vs, q, p, ni, nl, w⟩ := sr.als j l e
    have oa : Own σT σ a := ⟨j, l, e, q⟩
    obtain ⟨hr2, lv⟩ := hr_push hr p ni nl w
    have kp : Kp ρ I H (ρ ++ [a]) I H := ⟨fun n b e => by rw [List.getElem?_append_left (List.getElem?_eq_some_iff.mp e).1]; exact e, fun _ e => e, fun _ _ => rfl⟩
    have x : SExt ρ I h H σT σ (ρ ++ [a]) I (h ++ [.lst l]) H (σT.set j (some (.v (.ref h.length)))) σ := by
      refine ⟨kp.pre, fun _ e => e, fun _ _ _ _ => rfl, fun _ e => e, fun b i => .inl i, fun b l => ?_, fun b ⟨i, m, e1, e2⟩ => ?_⟩
      · exact (lv b l).elim .inl fun z => .inr (.inr (by rw [z]; exact oa))
      · rcases get_set e1 with ⟨_, _, z⟩ | ⟨c, z⟩
        · cases z
        · exact .inl ⟨i, m, z, e2⟩
    refine ⟨ρ ++ [a], I, σT.set j (some (.v (.ref h.length))), h ++ [.lst l], hr2, ?_, n.from x⟩
    refine ⟨by rw [List.length_set]; exact sr.len, fun i t z => ?_, fun i m z => ?_, fun i i' m m' b e1 e2 e3 e4 => ?_⟩
    · rcases get_set z with ⟨c, _, y⟩ | ⟨c, z⟩
      · subst c
        cases y
        exact ⟨.ref a, q, a, rfl, by rw [← hr.len, List.getElem?_append_right (Nat.le_refl _), Nat.sub_self]; rfl⟩
      · obtain ⟨v, q, p⟩ := sr.vs i t z; exact ⟨v, q, p.mono kp⟩
    · rcases get_set z with ⟨_, _, y⟩ | ⟨c, z⟩
      · cases y
      · obtain ⟨b, ws, q', p', ni', nl', w'⟩ := sr.als i m z
        refine ⟨b, ws, q', p', ni', fun y => (lv b y).elim nl' fun y => ?_, w'.mono kp⟩
        subst y
        exact c (sr.adj j i l m b e z q q')
    · rcases get_set e1 with ⟨_, _, z⟩ | ⟨c, z⟩
      · cases z
      · rcases get_set e2 with ⟨_, _, z'⟩ | ⟨c', z'⟩
        · cases z'
        · exact sr.adj i i' m m' b z z' e3 e4
  · exact n.elim
theorem s_ifS {c : C} {a b : List S} {pc : Expr} {pa pb : List Stmt} (hc : PT X pc (tB X.K X.mg W (evC Γ c))) (ha : PSs X pa (tS X.K X.mg W (evSs Γ a))) (hb : PSs X pb (tS X.K X.mg W (evSs Γ b))) : PS X (.If pc pa pb pos) (tS X.K X.mg W (evS Γ (.ife c a b))) := by
  refine PS.imp (ps_if hc ha hb) ?_
  rintro D σ H ⟨ρ, I, σT, h, hr, sr, n⟩
  rw [evS] at n
  refine ⟨ρ, I, σT, h, hr, sr, (n.sb sr hr).imp fun k h1 ρ1 I1 H1 x1 r1 n1 => ?_⟩
  cases k with
  | true => exact ⟨ρ1, I1, σT, h1, r1, sr.ext hr x1, n1.from (.of x1)⟩
  | false => exact ⟨ρ1, I1, σT, h1, r1, sr.ext hr x1, n1.from (.of x1)⟩
/-- a loop's turn: its outcome in the loop's -/
theorem turn_ns {K : PySem.W.Frag} {mg : Str → Option Value} {ρ ρ' : List Addr} {I I' : Addr → Prop} {h h' : Hs} {H H' : Hp} {σT σT' : Slots} {σ σ' : St} {o : SO} {k : Slots → Hs → SO} {D : Ends} {Nn : St → Hp → Prop}
    (n : NS K mg W ρ I h H σT σ (o.turn k) D) (x : SExt ρ I h H σT σ ρ' I' h' H' σT' σ')
    (f : ∀ σ3 h3 ρ3 I3 H3 σ3', SExt ρ I h H σT σ ρ3 I3 h3 H3 σ3 σ3' → HR K mg ρ3 I3 h3 H3 → SR K mg ρ3 I3 h3 H3 σ3 σ3' → NS K mg W ρ I h H σT σ (k σ3 h3) D → Nn σ3' H3) :
    NS K mg W ρ' I' h' H' σT' σ' o { D with nx := Nn, ct := Nn, bk := D.nx } := by
  cases o with
  | ok fl σ2 h2 =>
    intro ρ3 I3 H3 σ3 x3 r3 s3
    cases fl with
    | nx => exact f σ2 h2 ρ3 I3 H3 σ3 (x.trans x3) r3 s3 n
    | ct => exact f σ2 h2 ρ3 I3 H3 σ3 (x.trans x3) r3 s3 n
    | brk => exact NS.nx (show NS K mg W ρ I h H σT σ (.ok .nx σ2 h2) D from n) ρ3 I3 H3 σ3 (x.trans x3) r3 s3
    | ret r => exact fun v q => NS.rt (show NS K mg W ρ I h H σT σ (.ok (.ret r) σ2 h2) D from n) ρ3 I3 H3 σ3 v (x.trans x3) r3 s3 (q.back x)
  | ex y σ2 h2 => exact NS.from (show NS K mg W ρ I h H σT σ (.ex y σ2 h2) { D with nx := Nn, ct := Nn, bk := D.nx } from n) x
  | bad => exact n
theorem s_for (G : Gs X N Γ k W) {tg : Tg} {it : It} {body : List S} {pb : List Stmt} (hg : mTg X.env.scope X.N tg pg = true) (hi : PI X pg pi (tIt X.K X.mg W false (evIt Γ false it))) (hs : notSet pi = true) (hb : PSs X pb (tS X.K X.mg W (evSs Γ body))) :
    PS X (.For pg pi pb [] pos) (tS X.K X.mg W (evS Γ (.for tg it body))) := by
  refine PS.imp (ps_for G.po G.calm hi (s_tg G.calm G.nd G.loc tg.ixs tg pg hg fun _ z => z) hb (not_folded hs)) ?_
  rintro D σ H ⟨ρ, I, σT, h, hr, sr, n⟩
  rw [evS] at n
  refine ⟨ρ, I, σT, h, hr, sr, (n.sb sr hr).imp fun ts h1 ρ1 I1 H1 x1 r1 n0 J C st wk => ?_⟩
  have s1 := sr.ext hr x1
  have n1 := n0.from (.of x1)
  have st' : ∀ H2, (∀ a, I1 a → H2 a = H1 a) → C H2 := by unfold Stay at st; rw [if_neg (by decide)] at st; exact st
  refine ⟨fun i m σc Hc => m = ts.length - i ∧ i ≤ ts.length ∧ ∃ ρc Ic hc σTc, SExt ρ1 I1 h1 H1 σT σ ρc Ic hc Hc σTc σc ∧ HR X.K X.mg ρc Ic hc Hc ∧ SR X.K X.mg ρc Ic hc Hc σTc σc ∧
    NS X.K X.mg W ρ1 I1 h1 H1 σT σ (forL (fun x σ' h' => (liftS (asgT tg x σ') h').seq (evSs Γ body)) (ts.drop i) σTc hc) D, ⟨ts.length, by omega, Nat.zero_le _, ρ1, I1, h1, σT, .refl, r1, s1, n1⟩, ?_⟩
  rintro i m σc Hc ⟨rfl, hi', ρc, Ic, hc, σTc, xc, rc, sc, nc⟩
  have cC : C Hc := st' Hc fun a i => xc.ikeep r1 s1 i
  by_cases hlt : i < ts.length
  · refine .inr ⟨wk.go i Hc hlt cC, fun σ3 H3 => ∃ ρc Ic hc σTc, SExt ρ1 I1 h1 H1 σT σ ρc Ic hc H3 σTc σ3 ∧ HR X.K X.mg ρc Ic hc H3 ∧ SR X.K X.mg ρc Ic hc H3 σTc σ3 ∧
      NS X.K X.mg W ρ1 I1 h1 H1 σT σ (forL (fun x σ' h' => (liftS (asgT tg x σ') h').seq (evSs Γ body)) (ts.drop (i + 1)) σTc hc) D, fun σ3 H3 z => ⟨ts.length - (i + 1), by omega, rfl, hlt, z⟩, ?_⟩
    intro x H' y
    obtain ⟨e, t, et, rt⟩ := wk.yld i x Hc H' cC hlt y
    subst e
    rw [drop_at et] at nc
    have nc' : NS X.K X.mg W ρ1 I1 h1 H1 σT σ (((liftS (asgT tg t σTc) hc).seq (evSs Γ body)).turn (forL (fun x σ' h' => (liftS (asgT tg x σ') h').seq (evSs Γ body)) (ts.drop (i + 1)))) D := nc
    cases z : asgT tg t σTc with
    | none => rw [z] at nc'; exact nc'.elim
    | some σ2 =>
      rw [z] at nc'
      refine ⟨ρc, Ic, σTc, hc, t, σ2, rc, sc, rt.mono (xc.kp r1 s1), z, fun σ' s' ew => ⟨ρc, Ic, σ2, hc, rc, s', ?_⟩⟩
      have xa := xc.trans (asg_ext (ρ := ρc) (I := Ic) (h := hc) (H := H') z ew .refl)
      exact turn_ns (o := evSs Γ body σ2 hc) nc' xa fun σ3 h3 ρ3 I3 H3 σ3' x3 r3 s3 n3 => ⟨ρ3, I3, h3, σ3, x3, r3, s3, n3⟩
  · have e : i = ts.length := by omega
    subst e
    refine .inl ⟨wk.stop Hc cC, ?_⟩
    rw [List.drop_length] at nc
    exact NS.nx nc ρc Ic Hc σc xc rc sc
theorem s_whl (G : Gs X N Γ k W) {c : C} {body : List S} {pc : Expr} {pb : List Stmt} (hc : PT X pc (tB X.K X.mg W (evC Γ c))) (hb : PSs X pb (tS X.K X.mg W (evSs Γ body))) : PS X (.While pc pb [] pos) (tS X.K X.mg W (evS Γ (.whl c body))) := by
  refine PS.imp (ps_while G.po hc hb) ?_
  rintro D σ H ⟨ρ, I, σT, h, hr, sr, n⟩
  rw [evS] at n
  refine ⟨fun m σc Hc => ∃ ρc Ic hc σTc, SExt ρ I h H σT σ ρc Ic hc Hc σTc σc ∧ HR X.K X.mg ρc Ic hc Hc ∧ SR X.K X.mg ρc Ic hc Hc σTc σc ∧ NS X.K X.mg W ρ I h H σT σ (whlL (evC Γ c) (evSs Γ body) m σTc hc) D, ⟨whlMost, ρ, I, h, σT, .refl, hr, sr, n⟩, ?_⟩
  rintro m σc Hc ⟨ρc, Ic, hc', σTc, xc, rc, sc, nc⟩
  cases m with
  | zero => exact nc.elim
  | succ m =>
    have nc' : NS X.K X.mg W ρ I h H σT σ (sb σTc (evC Γ c σTc hc') fun b h1 => if b then (evSs Γ body σTc h1).turn (whlL (evC Γ c) (evSs Γ body) m) else .ok .nx σTc h1) D := nc
    refine ⟨ρc, Ic, σTc, hc', rc, sc, (nc'.sb' xc sc rc).imp fun b h1 ρ1 I1 H1 x1 r1 n1 => ?_⟩
    have s1 := sc.ext rc x1
    cases b with
    | false => exact NS.nx n1 ρ1 I1 H1 σc (xc.trans (.of x1)) r1 s1
    | true =>
      refine ⟨fun σ3 H3 => ∃ ρc Ic hc σTc, SExt ρ I h H σT σ ρc Ic hc H3 σTc σ3 ∧ HR X.K X.mg ρc Ic hc H3 ∧ SR X.K X.mg ρc Ic hc H3 σTc σ3 ∧ NS X.K X.mg W ρ I h H σT σ (whlL (evC Γ c) (evSs Γ body) m σTc hc) D, fun σ3 H3 z => ⟨m, Nat.lt_succ_self m, z⟩, ρ1, I1, σTc, h1, r1, s1, ?_⟩
      exact turn_ns (o := evSs Γ body σTc h1) n1 (xc.trans (.of x1)) fun σ3 h3 ρ3 I3 H3 σ3' x3 r3 s3 n3 => ⟨ρ3, I3, h3, σ3, x3, r3, s3, n3⟩
end
end VY
namespace VY
open PySem PySem.Spec
open PyProof.Rows hiding St
open L2
theorem setL_inv {r x y : R} {h h4 : Hs} (e : setL r x y h = some h4) : ∃ t n k l j, frz r = some t ∧ x = .v (.ref n) ∧ y = .v (.int k) ∧ h[n]? = some (.lst l) ∧ ixN l.length k = some j ∧ h4 = h.set n (.lst (l.set j t)) := by
  unfold setL at e
  cases f : frz r with
  | none => rw [f] at e; simp at e
  | some t =>
    rw [f] at e
    cases x with
    | al _ => simp at e
    | bw _ => simp at e
    | v x =>
      cases x <;> try (simp at e; done)
      rename_i n
      cases y with
      | al _ => simp at e
      | bw _ => simp at e
      | v y =>
        cases y <;> try (simp at e; done)
        rename_i k
        simp only [] at e
        split at e
        · rename_i l e2
          cases ej : ixN l.length k with
          | none => rw [ej] at e; cases e
          | some j => rw [ej] at e; cases e; exact ⟨t, n, k, l, j, rfl, rfl, rfl, e2, ej, rfl⟩
        · cases e
section
variable {X : Cx} {N : Nms} {Γ : Ctx} {k : Nat} {W : WX} {e o i a b c : E} {pe po pi pg pa pb pc : Expr} {pos : Pos}
theorem s_setIx (he : PE X pe (tD X.K X.mg W (evE Γ e))) (ho : PE X po (tD X.K X.mg W (evE Γ o))) (hi : PE X pi (tD X.K X.mg W (evE Γ i))) {p : Pos} (hn : notSlice pi = true) (hs : swapsWithSole [.Subscript po pi p] pe pos.line X.env = pure false) :
    PS X (.Assign [.Subscript po pi p] pe pos) (tS X.K X.mg W (evS Γ (.setIx o i e))) := by
  refine PS.imp (ps_asg he (pg_sub ho hi set_list (by intro v; cases pi <;> first | rfl | cases hn)) hs rfl rfl) ?_
  rintro D σ H ⟨ρ, I, σT, h, hr, sr, n⟩
  rw [evS] at n
  refine ⟨ρ, I, σT, h, hr, sr, (n.sb sr hr).imp' fun r h1 ρ1 I1 H1 x1 r1 n0 v o1 => ?_⟩
  cases z : frz r with
  | none =>
    -- nothing to store: the places are still looked at
    have n1 := n0 ρ1 I1 H1 x1 r1
    have s1 := sr.ext hr x1
    refine ⟨ρ1, I1, σT, h1, r1, s1, (n1.sb' (.of x1) s1 r1).imp fun x h2 ρ2 I2 H2 x2 r2 n2 u o2 => ?_⟩
    refine ⟨ρ2, I2, σT, h2, r2, s1.ext r1 x2, (n2.sb' (.of (x1.trans x2)) (s1.ext r1 x2) r2).imp fun y h3 ρ3 I3 H3 x3 r3 n3 w o3 => ?_⟩
    unfold setL at n3
    rw [z] at n3
    exact n3.elim
  | some t =>
    obtain ⟨J1, y1, q1, rp⟩ := o1.keep x1 r1 z
    have n1 := n0 ρ1 J1 H1 y1 q1
    have s1 := sr.ext hr y1
    refine ⟨ρ1, J1, σT, h1, q1, s1, (n1.sb' (.of y1) s1 q1).imp fun x h2 ρ2 I2 H2 x2 r2 n2 u o2 => ?_⟩
    have s2 := s1.ext q1 x2
    refine ⟨ρ2, I2, σT, h2, r2, s2, (n2.sb' (.of (y1.trans x2)) s2 r2).imp fun y h3 ρ3 I3 H3 x3 r3 n3 w o3 => ?_⟩
    have s3 := s2.ext r2 x3
    have xx := (y1.trans x2).trans x3
    have rp3 := (rp.mono (x2.kp q1)).mono (x3.kp r2)
    cases el : setL r x y h3 with
    | none => rw [el] at n3; exact n3.elim
    | some h4 =>
      rw [el] at n3
      obtain ⟨t', m, kk, l, j, e1, e2, e3, e4, ej, e5⟩ := setL_inv el
      rw [z] at e1
      cases e1
      subst e2 e3 e5
      obtain ⟨a, rfl, ea⟩ := (show ∃ a, u = .ref a ∧ ρ3[m]? = some a from (RO.ext o2 r2 x3))
      cases (show w = .int kk from o3)
      obtain ⟨vs, p, wv⟩ := r3.obj m _ a e4 ea
      have nd : HOb.lst l ≠ .dead := fun z => by cases z
      have nd' : HOb.lst (l.set j t) ≠ .dead := fun z => by cases z
      refine ⟨a, vs, kk, j, rfl, rfl, p, by rw [wv.length]; exact ej, ?_⟩
      refine n3.nx ρ3 I3 _ σ (ext_set (.of xx) ea e4 nd) (hr_set r3 ea e4 nd nd' fun H' kp up => ⟨_, up, Reps.mono ⟨fun _ _ e => e, fun _ e => e, kp⟩ (Reps.set rp3 j wv)⟩) (sr_set s3 r3 ea e4 nd)
/-- x.append(e) -/
theorem s_app {j : Nat} {x : Str} {p ap cp : Pos} (hi : X.N[j]? = some x) (hv : visB X.env.scope x = true) (hp : plainN x = true) (hb : notStar pb = true) (he : PE X pb (tD X.K X.mg W (evE Γ b))) (hl : (ap.endLine == cp.line) = true) :
    PS X (.Expr (.Call (.Attribute (.Name x p) "append" ap) [pb] [] cp) pos) (tS X.K X.mg W (evS Γ (.app j b))) := by
  have se : starEach [pb] X.env = (false, eval pb X.env) :: starEach [] X.env := star_eq hb
  refine PS.imp (ps_expr (pe_bm PySem.F.plainAttrs_list PySem.F.slot_list_append PySem.F.type_list_append mt_append (pe_var hi (vis_of hv) (plain_dbg hp).1 (plain_dbg hp).2) (pa_cons he pa_nil se) rfl (by rw [se]; rfl) hl se rfl) rfl) ?_
  rintro D σ H ⟨ρ, I, σT, h, hr, sr, n⟩
  rw [evS] at n
  cases ao : appOk h σT[j]? with
  | false => rw [ao] at n; exact n.elim
  | true =>
    rw [ao] at n
    have n : NS X.K X.mg W ρ I h H σT σ (sb σT (evE Γ b σT h) fun r h1 => appS σT j r h1) D := n
    have n' := n.sb sr hr
    unfold appOk at ao
    split at ao
    · rename_i l ej
      obtain ⟨a, vs, q, p, ni, nl, w⟩ := sr.als j l ej
      refine ⟨.ref a, q, .inl ⟨rfl, vs, .inl (.inl p)⟩, ρ, I, σT, h, hr, sr, n'.imp' fun r h1 ρ1 I1 H1 x1 r1 n0 v o1 => ?_⟩
      cases z : frz r with
      | none => have n1 := n0 ρ1 I1 H1 x1 r1; unfold appS at n1; rw [z] at n1; exact n1.elim
      | some t =>
        obtain ⟨J, y1, q1, rp⟩ := o1.keep x1 r1 z
        have n1 := n0 ρ1 J H1 y1 q1
        have s1 := sr.ext hr y1
        obtain ⟨a', vs', q', p', ni', nl', w'⟩ := s1.als j l ej
        rw [q] at q'
        cases q'
        unfold appS at n1
        rw [z, ej] at n1
        simp only [] at n1
        split at n1
        · rename_i hz
          obtain ⟨x2, r2, s2⟩ := own_upd (.of y1) s1 q1 ej q (w'.append (ws := [v]) (m := [t]) ⟨rp, trivial⟩)
          exact ⟨a, vs', v, rfl, rfl, p', by rw [w'.length, sizeLine_eq]; exact hz, n1.nx ρ1 J _ σ x2 r2 s2⟩
        · exact n1.elim
    · rename_i m ej
      obtain ⟨v0, q, a, rfl, ea⟩ := sr.vs j _ ej
      split at ao
      · rename_i l eh
        obtain ⟨vs, p, w⟩ := hr.obj m _ a eh ea
        refine ⟨.ref a, q, .inl ⟨rfl, vs, .inl (.inl p)⟩, ρ, I, σT, h, hr, sr, n'.imp' fun r h1 ρ1 I1 H1 x1 r1 n0 v o1 => ?_⟩
        cases z : frz r with
        | none => have n1 := n0 ρ1 I1 H1 x1 r1; unfold appS at n1; rw [z] at n1; exact n1.elim
        | some t =>
          obtain ⟨J, y1, q1, rp⟩ := o1.keep x1 r1 z
          have n1 := n0 ρ1 J H1 y1 q1
          have s1 := sr.ext hr y1
          have ea1 := y1.pre _ _ ea
          unfold appS at n1
          rw [z, ej] at n1
          simp only [] at n1
          split at n1
          · rename_i l' eh'
            split at n1
            · rename_i hz
              obtain ⟨vs', p', w'⟩ := q1.obj m _ a eh' ea1
              have nd : HOb.lst l' ≠ .dead := fun z => by cases z
              have nd' : HOb.lst (l' ++ [t]) ≠ .dead := fun z => by cases z
              refine ⟨a, vs', v, rfl, rfl, p', by rw [w'.length, sizeLine_eq]; exact hz, ?_⟩
              exact n1.nx ρ1 J _ σ (ext_set (.of y1) ea1 eh' nd) (hr_set q1 ea1 eh' nd nd' fun H' kp up => ⟨_, up, Reps.mono ⟨fun _ _ e => e, fun _ e => e, kp⟩ (w'.append (ws := [v]) (m := [t]) ⟨rp, trivial⟩)⟩) (sr_set s1 q1 ea1 eh' nd)
            · exact n1.elim
          · exact n1.elim
      · cases ao
    · cases ao
end
end VY
namespace VY
open PySem PySem.Spec
open PyProof.Rows hiding St
open L2
section
variable {K : PySem.W.Frag} {mg : Str → Option Value} {ρ ρ' ρ'' : List Addr} {I I' I'' : Addr → Prop} {h h' h'' : Hs} {H H' H'' H0 : Hp} {σT σT' σT'' : Slots} {σ σ' σ'' τ : St} {τT : Slots} {W W' : WX}
/-- what an expression gave, stored into a slot; nobody holds its list -/
theorem put_ok' {v : V} {r : R} {s : Sl} {i : Nat} (x : SExt ρ I h H σT σ ρ' I' h' H' σT' σ') (sr : SR K mg ρ' I' h' H' σT' σ') (o : RO K mg ρ' I' h' H' H τT τ v r)
    (no : ∀ (l : List T) (a : Addr), r = .al l → v = .ref a → ¬ Own σT' σ' a) (e : putR r = some s) :
    SExt ρ I h H σT σ ρ' I' h' H' (σT'.set i (some s)) (σ'.set i (some v)) ∧ SR K mg ρ' I' h' H' (σT'.set i (some s)) (σ'.set i (some v)) := by
  cases r with
  | v t => cases e; exact ⟨{ x with onew := fun a z => x.onew a (own_set z) }, sr.set o i⟩
  | al l =>
    cases e
    obtain ⟨a, vs, rfl, n, p, ni, nl, w⟩ := o
    refine ⟨{ x with onew := fun b z => (own_setA z).elim (x.onew b) fun q => by rw [q]; exact .inr n }, sr.setA p ni nl w i fun j m _ e1 e2 => ?_⟩
    exact no l a rfl rfl ⟨j, m, e1, e2⟩
  | bw i => cases e
theorem own_put {v : V} {r : R} {s : Sl} {i : Nat} {a : Addr} (e : putR r = some s) (hv : ∀ l, r = .al l → ∃ b, v = .ref b) (z : Own (σT.set i (some s)) (σ.set i (some v)) a) : Own σT σ a ∨ (∃ l, r = .al l ∧ v = .ref a) := by
  cases r with
  | v t => cases e; exact .inl (own_set z)
  | al l =>
    cases e
    obtain ⟨b, rfl⟩ := hv l rfl
    exact (own_setA z).imp id fun q => by subst q; exact ⟨l, rfl, rfl⟩
  | bw i => cases e
theorem RO.isR {H0 : Hp} {v : V} {r : R} (o : RO K mg ρ I h H H0 τT τ v r) : ∀ l, r = .al l → ∃ b, v = .ref b := fun l e => by
  subst e
  obtain ⟨a, vs, e, _⟩ := o
  exact ⟨a, e⟩
/-- a fresh list's place -/
theorem RO.new {H0 : Hp} {v : V} {l : List T} {a : Addr} (o : RO K mg ρ I h H H0 τT τ v (.al l)) (e : v = .ref a) : H0 a = none ∧ (H a).isSome := by
  obtain ⟨b, vs, e', n, p, _⟩ := o
  rw [e] at e'
  cases e'
  exact ⟨n, isSome_of p⟩
end
section
variable {X : Cx} {N : Nms} {Γ : Ctx} {k : Nat} {W : WX} {e o i a b c : E} {pe po pi pg pa pb pc : Expr} {pos : Pos}
/-- the order of the stores, as the model takes it -/
def swS (sc : Scope) (ts vs : List Expr) : Option (Option (List Str)) :=
  if !(ts.length == 2 || ts.length == 3) || vs.length != ts.length then some none
  else if (vs.any fun | .Starred .. => true | _ => false) then some none
  else
    let line := (ts.head?.map (·.pos.line)).getD 0
    let names := ts.filterMap fun
      | .Name id pos => if sc.names.lookup id == some .local && pos.line == line then some id else none
      | _ => none
    if names.length != ts.length || names.eraseDups.length != names.length then some none
    else if vs.all (foldedForSure 8) then some none
    else if vs.all (constantsAlone 8) then none
    else some (some names)
theorem swS_ok {env : Env} (hk : env.scope.kind = .function) {ts vs : List Expr} {r : Option (List Str)} {i' j' : Nat} {p q : Pos} (e : swS env.scope ts vs = some r) : swappedStores [.Tuple ts i' p] (.Tuple vs j' q) env = pure r := by
  have hb : (env.blockKind != ScopeKind.function) = false := by unfold Env.blockKind; rw [hk]; rfl
  unfold swS at e
  unfold swappedStores
  simp only [hb, Bool.or_false]
  split at e
  · rename_i c
    rw [if_pos c]
    cases e
    rfl
  · rename_i c
    rw [if_neg c]
    split at e
    · rename_i c1
      cases e
      exact if_pos c1
    · rename_i c1
      refine (if_neg c1).trans ?_
      simp only [] at e
      split at e
      · rename_i c2
        cases e
        exact if_pos c2
      · rename_i c2
        refine (if_neg c2).trans ?_
        split at e
        · rename_i c3
          cases e
          exact if_pos c3
        · rename_i c3
          refine (if_neg c3).trans ?_
          split at e
          · cases e
          · rename_i c4
            cases e
            exact if_neg c4
theorem s_par2 (G : Gs X N Γ k W) {i j : Nat} {x y : Str} {px py pt pt2 : Pos} {k1 k2 : Nat} (hi : X.N[i]? = some x) (hj : X.N[j]? = some y) (hij : i ≠ j) (hx : X.env.scope.names.lookup x = some .local) (hy : X.env.scope.names.lookup y = some .local)
    (ha : PE X pa (tD X.K X.mg W (evE Γ a))) (hb : PE X pb (tD X.K X.mg W (evE Γ b))) (sa : notStar pa = true) (sb : notStar pb = true)
    (hw : swS X.env.scope [.Name x px, .Name y py] [pa, pb] = some (some [x, y])) :
    PS X (.Assign [.Tuple [.Name x px, .Name y py] k1 pt] (.Tuple [pa, pb] k2 pt2) pos) (tS X.K X.mg W (evS Γ (.par2 i j a b))) := by
  refine PS.imp (ps_par G.calm G.nd hi hj hij hx hy (pa_cons ha (pa_cons hb pa_nil (star_eq sb)) (star_eq sa)) (swS_ok G.kind hw) rfl) ?_
  rintro D σ H ⟨ρ, I, σT, h, hr, sr, n⟩
  rw [evS] at n
  refine ⟨ρ, I, σT, h, hr, sr, (n.sb sr hr).imp fun r h1 ρ1 I1 H1 x1 r1 n1 v o1 => ?_⟩
  have s1 := sr.ext hr x1
  refine ⟨ρ1, I1, σT, h1, r1, s1, (n1.sb' (.of x1) s1 r1).imp fun r' h2 ρ2 I2 H2 x2 r2 n2 v' o2 => ⟨v, v', rfl, ?_⟩⟩
  have s2 := s1.ext r1 x2
  have xx := x1.trans x2
  cases e1 : putR r with
  | none => rw [e1] at n2; exact n2.elim
  | some w =>
    cases e2 : putR r' with
    | none => rw [e1, e2] at n2; exact n2.elim
    | some w' =>
      rw [e1, e2] at n2
      obtain ⟨y1, t1⟩ := put_ok' (i := i) (.of xx) s2 (o1.ext r1 x2) (fun l a er ev ow => by
        subst er
        exact not_none (sr.own ow).1 (o1.new ev).1) e1
      obtain ⟨y2, t2⟩ := put_ok' (i := j) y1 t1 (o2.back x1.dom) (fun l a er ev ow => by
        subst er
        have q := o2.new ev
        rcases own_put e1 o1.isR ow with z | ⟨m, er', ev'⟩
        · exact not_none (x1.dom _ (sr.own z).1) q.1
        · subst er'
          exact not_none (o1.new ev').2 q.1) e2
      exact n2.nx ρ2 I2 H2 _ y2 r2 t2
theorem s_par3 (G : Gs X N Γ k W) {i j l : Nat} {x y z : Str} {px py pz pt pt2 : Pos} {k1 k2 : Nat} (hi : X.N[i]? = some x) (hj : X.N[j]? = some y) (hl : X.N[l]? = some z) (hij : i ≠ j) (hil : i ≠ l) (hjl : j ≠ l)
    (hx : X.env.scope.names.lookup x = some .local) (hy : X.env.scope.names.lookup y = some .local) (hz : X.env.scope.names.lookup z = some .local)
    (ha : PE X pa (tD X.K X.mg W (evE Γ a))) (hb : PE X pb (tD X.K X.mg W (evE Γ b))) (hc : PE X pc (tD X.K X.mg W (evE Γ c))) (sa : notStar pa = true) (sb : notStar pb = true) (sc : notStar pc = true)
    (hw : swS X.env.scope [.Name x px, .Name y py, .Name z pz] [pa, pb, pc] = some (some [x, y, z])) :
    PS X (.Assign [.Tuple [.Name x px, .Name y py, .Name z pz] k1 pt] (.Tuple [pa, pb, pc] k2 pt2) pos) (tS X.K X.mg W (evS Γ (.par3 i j l a b c))) := by
  refine PS.imp (ps_par3 G.calm G.nd hi hj hl hij hil hjl hx hy hz (pa_cons ha (pa_cons hb (pa_cons hc pa_nil (star_eq sc)) (star_eq sb)) (star_eq sa)) (swS_ok G.kind hw) rfl) ?_
  rintro D σ H ⟨ρ, I, σT, h, hr, sr, n⟩
  rw [evS] at n
  refine ⟨ρ, I, σT, h, hr, sr, (n.sb sr hr).imp fun r h1 ρ1 I1 H1 x1 r1 n1 v o1 => ?_⟩
  have s1 := sr.ext hr x1
  refine ⟨ρ1, I1, σT, h1, r1, s1, (n1.sb' (.of x1) s1 r1).imp fun r' h2 ρ2 I2 H2 x2 r2 n2 v' o2 => ?_⟩
  have s2 := s1.ext r1 x2
  have xx := x1.trans x2
  refine ⟨ρ2, I2, σT, h2, r2, s2, (n2.sb' (.of xx) s2 r2).imp fun r'' h3 ρ3 I3 H3 x3 r3 n3 v'' o3 => ⟨v, v', v'', rfl, ?_⟩⟩
  have s3 := s2.ext r2 x3
  have xxx := xx.trans x3
  cases e1 : putR r with
  | none => rw [e1] at n3; exact n3.elim
  | some w =>
    cases e2 : putR r' with
    | none => rw [e1, e2] at n3; exact n3.elim
    | some w' =>
      cases e3 : putR r'' with
      | none => rw [e1, e2, e3] at n3; exact n3.elim
      | some w'' =>
        rw [e1, e2, e3] at n3
        obtain ⟨y1, t1⟩ := put_ok' (i := i) (.of xxx) s3 ((o1.ext r1 x2).ext r2 x3) (fun l a er ev ow => by
          subst er
          exact not_none (sr.own ow).1 (o1.new ev).1) e1
        obtain ⟨y2, t2⟩ := put_ok' (i := j) y1 t1 ((o2.ext r2 x3).back x1.dom) (fun l a er ev ow => by
          subst er
          have q := o2.new ev
          rcases own_put e1 o1.isR ow with z | ⟨m, er', ev'⟩
          · exact not_none (x1.dom _ (sr.own z).1) q.1
          · subst er'
            exact not_none (o1.new ev').2 q.1) e2
        obtain ⟨y3, t3⟩ := put_ok' (i := l) y2 t2 (o3.back xx.dom) (fun l a er ev ow => by
          subst er
          have q := o3.new ev
          rcases own_put e2 o2.isR ow with z | ⟨m, er', ev'⟩
          · rcases own_put e1 o1.isR z with z | ⟨m, er', ev'⟩
            · exact not_none (xx.dom _ (sr.own z).1) q.1
            · subst er'
              exact not_none (x2.dom _ (o1.new ev').2) q.1
          · subst er'
            exact not_none (o2.new ev').2 q.1) e3
        exact n3.nx ρ3 I3 H3 _ y3 r3 t3
end
end VY
namespace VY
open PySem PySem.Spec
open PyProof.Rows hiding St
open L2
def notComp : Expr → Bool
  | .ListComp .. => false | .SetComp .. => false | .DictComp .. => false | _ => true
theorem comp_pure {e : Expr} {t : Option Expr} {n : Nat} {env : Env} (h : notComp e = true) : swapsWith e t n env = pure false := by cases e <;> first | rfl | cases h
def isNone2 : Option (Option (List Str)) → Bool
  | some none => true
  | _ => false
theorem isNone2_of {o : Option (Option (List Str))} (h : isNone2 o = true) : o = some none := by
  unfold isNone2 at h
  split at h
  · rfl
  · cases h
def isNames (o : Option (Option (List Str))) (ns : List Str) : Bool := match o with
  | some (some l) => decide (l = ns)
  | _ => false
theorem isNames_of {o : Option (Option (List Str))} {ns : List Str} (h : isNames o ns = true) : o = some (some ns) := by
  unfold isNames at h
  split at h
  · rw [of_decide_eq_true h]
  · cases h
def lclB (sc : Scope) (x : Str) : Bool := match sc.names.lookup x with
  | some .local => true | _ => false
theorem lclB_of {sc : Scope} {x : Str} (h : lclB sc x = true) : sc.names.lookup x = some .local := by
  unfold lclB at h
  split at h
  · assumption
  · cases h
/-- a tuple's stores in their order -/
def plainTp (sc : Scope) (pg pe : Expr) : Bool := match pg with
  | .Tuple ts _ _ => (match pe with
    | .Tuple vs _ _ => isNone2 (swS sc ts vs)
    | _ => true)
  | _ => false
variable (N : Nms) (nm : List Str)
mutual
def mS (sc : Scope) : S → Stmt → Bool
  | .asg j e, s => match s with
    | .Assign [.Name x _] pe _ => decide (nm[j]? = some x) && locB sc x && mE N nm sc e pe
    | _ => false
  | .asgT tg e, s => match s with
    | .Assign [pg] pe _ => mTg sc nm tg pg && mE N nm sc e pe && plainTp sc pg pe
    | _ => false
  | .setIx o i e, s => match s with
    | .Assign [.Subscript po pi _] pe _ => mE N nm sc e pe && mE N nm sc o po && mE N nm sc i pi && notSlice pi
    | _ => false
  | .expr e, s => match s with
    | .Expr pe _ => mE N nm sc e pe && notComp pe
    | _ => false
  | .ret e, s => match s with
    | .Return (some pe) _ => mE N nm sc e pe
    | _ => false
  | .retS j, s => match s with
    | .Return (some (.Name x _)) _ => decide (nm[j]? = some x) && visB sc x && plainN x
    | _ => false
  | .retN, s => match s with
    | .Return none _ => true
    | _ => false
  | .ife c a b, s => match s with
    | .If pc pa pb _ => mCd N nm sc c pc && mSs sc a pa && mSs sc b pb
    | _ => false
  | .for tg it body, s => match s with
    | .For pg pi pb [] _ => mTg sc nm tg pg && mIt N nm sc it pi && notSet pi && mSs sc body pb
    | _ => false
  | .whl c body, s => match s with
    | .While pc pb [] _ => mCd N nm sc c pc && mSs sc body pb
    | _ => false
  | .brk, s => match s with
    | .Break _ => true
    | _ => false
  | .cnt, s => match s with
    | .Continue _ => true
    | _ => false
  | .pass, s => match s with
    | .Pass _ => true
    | _ => false
  | .app j e, s => match s with
    | .Expr (.Call (.Attribute (.Name x _) m ap) [pb] [] cp) _ => decide (m = "append") && decide (nm[j]? = some x) && visB sc x && plainN x && notStar pb && mE N nm sc e pb && (ap.endLine == cp.line)
    | _ => false
  | .fz _, _ => false
  | .pr _, _ => false
  | .par2 i j a b, s => match s with
    | .Assign [.Tuple [.Name x px, .Name y py] _ _] (.Tuple [pa, pb] _ _) _ => decide (nm[i]? = some x) && decide (nm[j]? = some y) && decide (i ≠ j) && lclB sc x && lclB sc y && mE N nm sc a pa && mE N nm sc b pb && notStar pa && notStar pb &&
        isNames (swS sc [.Name x px, .Name y py] [pa, pb]) [x, y]
    | _ => false
  | .par3 i j l a b c, s => match s with
    | .Assign [.Tuple [.Name x px, .Name y py, .Name z pz] _ _] (.Tuple [pa, pb, pc] _ _) _ => decide (nm[i]? = some x) && decide (nm[j]? = some y) && decide (nm[l]? = some z) && decide (i ≠ j) && decide (i ≠ l) && decide (j ≠ l) && lclB sc x && lclB sc y && lclB sc z &&
        mE N nm sc a pa && mE N nm sc b pb && mE N nm sc c pc && notStar pa && notStar pb && notStar pc && isNames (swS sc [.Name x px, .Name y py, .Name z pz] [pa, pb, pc]) [x, y, z]
    | _ => false
def mSs (sc : Scope) : List S → List Stmt → Bool
  | [], [] => true
  | [], _ :: _ => false
  | s :: ss, ps => (match s with
    | .fz _ => mSs sc ss ps
    | .pr _ => mSs sc ss ps
    | _ => (match ps with
      | [] => false
      | p :: ps => mS sc s p && mSs sc ss ps))
end
section
variable {N : Nms} {Γ : Ctx} {k : Nat} {X : Cx} {W : WX}
/-- x = e -/
theorem s_asgM (G : Gs X N Γ k W) {j : Nat} {x : Str} {p pos : Pos} {e : E} {pe : Expr} (hi : X.N[j]? = some x) (hl : locB X.env.scope x = true) (m : mE N X.N X.env.scope e pe = true) : PS X (.Assign [.Name x p] pe pos) (tS X.K X.mg W (evS Γ (.asg j e))) := by
  by_cases hc : notComp pe = true
  · exact s_asg G hi hl (sE e G.toGd m) (comp_pure hc)
  · cases pe <;> try exact (hc rfl).elim
    · rename_i el gs scope lp
      have sw : swapsWith (.ListComp el gs scope lp) (some (.Name x p)) pos.line X.env = pure (X.env.blockKind == .function && X.env.kindOf x == some .local && p.line == lp.line && !(scope.names.any fun (n, k) => n == x && (k == .local || k == .cell))) := rfl
      cases hb : (X.env.blockKind == .function && X.env.kindOf x == some .local && p.line == lp.line && !(scope.names.any fun (n, k) => n == x && (k == .local || k == .cell))) with
      | false => exact s_asg G hi hl (sE e G.toGd m) (sw.trans (by rw [hb]))
      | true =>
        have hyl : X.env.scope.names.lookup x = some .local := by
          have q := (and_tt (and_tt (and_tt hb).1).1).2
          exact eq_of_beq q
        have sw' := sw.trans (congrArg pure hb)
        refine PS.imp ?_ fun D σ H q => asg_read q
        cases e <;> try (unfold mE at m; exact ff m)
        rename_i elt tg it cond
        unfold mE at m; simp only [] at m; split at m
        · rename_i t iter ifs a _
          have q := and_tt m
          have q1 := and_tt q.1
          have q2 := and_tt q1.1
          have q3 := and_tt q2.1
          have q4 := and_tt q3.1
          have q5 := and_tt q4.1
          cases of_decide_eq_true q5.1
          refine s_setLc G.toGd hi hyl sw' (blkOk_by q5.2) q4.2 (sIt it true G.toGd _ q3.2) q2.2 (fun s H C cl fp => ?_) (fun s H C cl fp => sE elt (G.toGd.blk s H _ (compEnvC _ cl C X.env) fp) q1.2)
          have qc := q.2
          split at qc
          · split at qc
            · exact pts_yes
            · exact ff qc
          · split at qc
            · exact ff qc
            · exact pts_one (sC cond (G.toGd.blk s H _ (compEnvC _ cl C X.env) fp) qc)
          · exact ff qc
        · exact ff m
    · cases e <;> (unfold mE at m; exact ff m)
    · cases e <;> (unfold mE at m; exact ff m)
theorem sole_sub {po pi pe : Expr} {p : Pos} {n : Nat} {env : Env} : swapsWithSole [.Subscript po pi p] pe n env = pure false := by cases pe <;> rfl
theorem sole_tup {ts : List Expr} {i : Nat} {pe : Expr} {p : Pos} {n : Nat} {env : Env} : swapsWithSole [.Tuple ts i p] pe n env = pure false := by cases pe <;> rfl
theorem plainTp_of {pg pe : Expr} {env : Env} {n : Nat} (hk : env.scope.kind = .function) (h : plainTp env.scope pg pe = true) : swappedStores [pg] pe env = pure none ∧ swapsWithSole [pg] pe n env = pure false ∧ (assignEach [pg] env).map (·.2) = [assign pg env] := by
  cases pg <;> try exact ff h
  refine ⟨?_, sole_tup, rfl⟩
  cases pe <;> first | rfl | exact swS_ok hk (isNone2_of h)
mutual
theorem sS (G : Gs X N Γ k W) : ∀ (s : S) {ps : Stmt}, mS N X.N X.env.scope s ps = true → PS X ps (tS X.K X.mg W (evS Γ s))
  | .asg j e, ps, m => by
    unfold mS at m; split at m
    · have q := and_tt m
      have q1 := and_tt q.1
      exact s_asgM G (of_decide_eq_true q1.1) q1.2 q.2
    · exact ff m
  | .asgT tg e, ps, m => by
    unfold mS at m; split at m
    · have q := and_tt m
      have q1 := and_tt q.1
      have z := fun n => plainTp_of (n := n) G.kind q.2
      exact s_asgT G q1.1 (sE e G.toGd q1.2) (z _).2.1 (z 0).1 (z 0).2.2
    · exact ff m
  | .setIx o i e, ps, m => by
    unfold mS at m; split at m
    · have q := and_tt m
      have q1 := and_tt q.1
      have q2 := and_tt q1.1
      exact s_setIx (sE e G.toGd q2.1) (sE o G.toGd q2.2) (sE i G.toGd q1.2) q.2 sole_sub
    · exact ff m
  | .expr e, ps, m => by
    unfold mS at m; split at m
    · have q := and_tt m
      exact s_expr (sE e G.toGd q.1) (comp_pure q.2)
    · exact ff m
  | .ret e, ps, m => by
    unfold mS at m; split at m
    · exact s_ret (sE e G.toGd m)
    · exact ff m
  | .retS j, ps, m => by
    unfold mS at m; split at m
    · exact s_retS (of_decide_eq_true (and_tt (and_tt m).1).1) (and_tt (and_tt m).1).2 (and_tt m).2
    · exact ff m
  | .retN, ps, m => by
    unfold mS at m; split at m
    · exact s_retN
    · exact ff m
  | .ife c a b, ps, m => by
    unfold mS at m; split at m
    · have q := and_tt m
      have q1 := and_tt q.1
      exact s_ifS (sC c G.toGd q1.1) (sSs G a q1.2) (sSs G b q.2)
    · exact ff m
  | .for tg it body, ps, m => by
    unfold mS at m; split at m
    · have q := and_tt m
      have q1 := and_tt q.1
      have q2 := and_tt q1.1
      exact s_for G q2.1 (sIt it false G.toGd _ q2.2) q1.2 (sSs G body q.2)
    · exact ff m
  | .whl c body, ps, m => by
    unfold mS at m; split at m
    · exact s_whl G (sC c G.toGd (and_tt m).1) (sSs G body (and_tt m).2)
    · exact ff m
  | .brk, ps, m => by
    unfold mS at m; split at m
    · exact s_brk
    · exact ff m
  | .cnt, ps, m => by
    unfold mS at m; split at m
    · exact s_cnt
    · exact ff m
  | .pass, ps, m => by
    unfold mS at m; split at m
    · exact s_pass
    · exact ff m
  | .app j e, ps, m => by
    unfold mS at m; split at m
    · have q := and_tt m
      have q1 := and_tt q.1
      have q2 := and_tt q1.1
      have q3 := and_tt q2.1
      have q4 := and_tt q3.1
      have q5 := and_tt q4.1
      cases of_decide_eq_true q5.1
      exact s_app (of_decide_eq_true q5.2) q4.2 q3.2 q2.2 (sE e G.toGd q1.2) q.2
    · exact ff m
  | .fz _, ps, m => ff m
  | .pr _, ps, m => ff m
  | .par2 i j a b, ps, m => by
    unfold mS at m; split at m
    · have q := and_tt m
      have q1 := and_tt q.1
      have q2 := and_tt q1.1
      have q3 := and_tt q2.1
      have q4 := and_tt q3.1
      have q5 := and_tt q4.1
      have q6 := and_tt q5.1
      have q7 := and_tt q6.1
      have q8 := and_tt q7.1
      exact s_par2 G (of_decide_eq_true q8.1) (of_decide_eq_true q8.2) (of_decide_eq_true q7.2) (lclB_of q6.2) (lclB_of q5.2) (sE a G.toGd q4.2) (sE b G.toGd q3.2) q2.2 q1.2 (isNames_of q.2)
    · exact ff m
  | .par3 i j l a b c, ps, m => by
    unfold mS at m; split at m
    · have q := and_tt m
      have q1 := and_tt q.1
      have q2 := and_tt q1.1
      have q3 := and_tt q2.1
      have q4 := and_tt q3.1
      have q5 := and_tt q4.1
      have q6 := and_tt q5.1
      have q7 := and_tt q6.1
      have q8 := and_tt q7.1
      have q9 := and_tt q8.1
      have qa := and_tt q9.1
      have qb := and_tt qa.1
      have qc := and_tt qb.1
      have qd := and_tt qc.1
      have qe := and_tt qd.1
      exact s_par3 G (of_decide_eq_true qe.1) (of_decide_eq_true qe.2) (of_decide_eq_true qd.2) (of_decide_eq_true qc.2) (of_decide_eq_true qb.2) (of_decide_eq_true qa.2) (lclB_of q9.2) (lclB_of q8.2) (lclB_of q7.2) (sE a G.toGd q6.2) (sE b G.toGd q5.2) (sE c G.toGd q4.2) q3.2 q2.2 q1.2 (isNames_of q.2)
    · exact ff m
theorem sSs (G : Gs X N Γ k W) : ∀ (ss : List S) {ps : List Stmt}, mSs N X.N X.env.scope ss ps = true → PSs X ps (tS X.K X.mg W (evSs Γ ss))
  | [], ps, m => by
    cases ps with
    | nil => exact s_ss0
    | cons p ps => exact ff m
  | .fz j :: ss, ps, m => s_fz (sSs G ss m)
  | .pr j :: ss, ps, m => s_pr (sSs G ss m)
  | .asg j e :: ss, ps, m => by
    cases ps with
    | nil => exact ff m
    | cons p ps => exact s_ss1 (sS G (.asg j e) (and_tt m).1) (sSs G ss (and_tt m).2)
  | .asgT tg e :: ss, ps, m => by
    cases ps with
    | nil => exact ff m
    | cons p ps => exact s_ss1 (sS G (.asgT tg e) (and_tt m).1) (sSs G ss (and_tt m).2)
  | .setIx o i e :: ss, ps, m => by
    cases ps with
    | nil => exact ff m
    | cons p ps => exact s_ss1 (sS G (.setIx o i e) (and_tt m).1) (sSs G ss (and_tt m).2)
  | .expr e :: ss, ps, m => by
    cases ps with
    | nil => exact ff m
    | cons p ps => exact s_ss1 (sS G (.expr e) (and_tt m).1) (sSs G ss (and_tt m).2)
  | .ret e :: ss, ps, m => by
    cases ps with
    | nil => exact ff m
    | cons p ps => exact s_ss1 (sS G (.ret e) (and_tt m).1) (sSs G ss (and_tt m).2)
  | .retS j :: ss, ps, m => by
    cases ps with
    | nil => exact ff m
    | cons p ps => exact s_ss1 (sS G (.retS j) (and_tt m).1) (sSs G ss (and_tt m).2)
  | .retN :: ss, ps, m => by
    cases ps with
    | nil => exact ff m
    | cons p ps => exact s_ss1 (sS G .retN (and_tt m).1) (sSs G ss (and_tt m).2)
  | .ife c a b :: ss, ps, m => by
    cases ps with
    | nil => exact ff m
    | cons p ps => exact s_ss1 (sS G (.ife c a b) (and_tt m).1) (sSs G ss (and_tt m).2)
  | .for tg it body :: ss, ps, m => by
    cases ps with
    | nil => exact ff m
    | cons p ps => exact s_ss1 (sS G (.for tg it body) (and_tt m).1) (sSs G ss (and_tt m).2)
  | .whl c body :: ss, ps, m => by
    cases ps with
    | nil => exact ff m
    | cons p ps => exact s_ss1 (sS G (.whl c body) (and_tt m).1) (sSs G ss (and_tt m).2)
  | .brk :: ss, ps, m => by
    cases ps with
    | nil => exact ff m
    | cons p ps => exact s_ss1 (sS G .brk (and_tt m).1) (sSs G ss (and_tt m).2)
  | .cnt :: ss, ps, m => by
    cases ps with
    | nil => exact ff m
    | cons p ps => exact s_ss1 (sS G .cnt (and_tt m).1) (sSs G ss (and_tt m).2)
  | .pass :: ss, ps, m => by
    cases ps with
    | nil => exact ff m
    | cons p ps => exact s_ss1 (sS G .pass (and_tt m).1) (sSs G ss (and_tt m).2)
  | .app j e :: ss, ps, m => by
    cases ps with
    | nil => exact ff m
    | cons p ps => exact s_ss1 (sS G (.app j e) (and_tt m).1) (sSs G ss (and_tt m).2)
  | .par2 i j a b :: ss, ps, m => by
    cases ps with
    | nil => exact ff m
    | cons p ps => exact s_ss1 (sS G (.par2 i j a b) (and_tt m).1) (sSs G ss (and_tt m).2)
  | .par3 i j l a b c :: ss, ps, m => by
    cases ps with
    | nil => exact ff m
    | cons p ps => exact s_ss1 (sS G (.par3 i j l a b c) (and_tt m).1) (sSs G ss (and_tt m).2)
end
end
end VY
namespace VY
open PySem PySem.Spec
open PyProof.Rows hiding St
open L2
/-- a def: where it stands, the names of its slots, its parameters, its tree -/
structure FnD where
  d : He.DefD
  nm : List Str
  ps : List Str
  fd : FD
  bind : ∀ (kV doc pm : Value) (an : Option Addr) (cdv ct : Value) (us : List Value), us.length = ps.length → bindArgs (PySem.W.fnOf d.name d.qual d.params d.body d.scope .none kV doc pm an cdv ct) ⟨us, []⟩ = pure (ps.zip us)
/-- a def's scope, looked at -/
def scpB (nm ps : List Str) (sc : Scope) : Bool := (match sc.kind with | .function => true | _ => false) && !sc.isCoroutine && !sc.isGenerator && decide nm.Nodup && decide (nm.take ps.length = ps) && ps.all (locB sc) && sc.names.all fun y => match y.2 with | .free => false | _ => true
theorem scpB_of {nm ps : List Str} {sc : Scope} (h : scpB nm ps sc = true) : FnScope nm ps sc := by
  have q := and_tt h
  have q1 := and_tt q.1
  have q2 := and_tt q1.1
  have q3 := and_tt q2.1
  have q4 := and_tt q3.1
  have q5 := and_tt q4.1
  refine ⟨?_, by simpa using q5.2, by simpa using q4.2, of_decide_eq_true q3.2, of_decide_eq_true q2.2, fun x hx => loc_of (List.all_eq_true.mp q1.2 x hx), fun y hy e => ?_⟩
  · have z := q5.1
    split at z
    · assumption
    · cases z
  · have z := List.all_eq_true.mp q.2 y hy
    rw [e] at z
    cases z
def okF (N : Nms) (f : FnD) : Bool := scpB f.nm f.ps f.d.scope && decide (f.fd.n = f.nm.length) && decide (f.fd.ps = f.ps.length) && decide (f.ps.length ≤ f.nm.length) && mSs N f.nm f.d.scope f.fd.body f.d.body && f.d.dfl.isEmpty && f.d.kwd.isEmpty
structure OkF (N : Nms) (f : FnD) : Prop where
  sc : FnScope f.nm f.ps f.d.scope
  n : f.fd.n = f.nm.length
  ps : f.fd.ps = f.ps.length
  le : f.ps.length ≤ f.nm.length
  m : mSs N f.nm f.d.scope f.fd.body f.d.body = true
  dfl : f.d.dfl = []
  kwd : f.d.kwd = []
theorem okF_of {N : Nms} {f : FnD} (h : okF N f = true) : OkF N f := by
  have q := and_tt h
  have q1 := and_tt q.1
  have q2 := and_tt q1.1
  have q3 := and_tt q2.1
  have q4 := and_tt q3.1
  have q5 := and_tt q4.1
  exact ⟨scpB_of q5.1, of_decide_eq_true q5.2, of_decide_eq_true q4.2, of_decide_eq_true q3.2, q2.2, List.isEmpty_iff.mp q1.2, List.isEmpty_iff.mp q.2⟩
section
variable {K : PySem.W.Frag} {mg : Str → Option Value} {ρ ρ' : List Addr} {I I' : Addr → Prop} {h h' : Hs} {H H' : Hp}
theorem start_own {ts : List T} {n : Nat} {σ : St} {a : Addr} (o : Own (startT n ts) σ a) : False := by
  obtain ⟨i, l, e, _⟩ := o
  unfold startT at e
  by_cases hi : i < ts.length
  · rw [List.getElem?_append_left (by simpa using hi), List.getElem?_map] at e
    cases z : ts[i]? with
    | none => rw [z] at e; cases e
    | some t => rw [z] at e; cases e
  · rw [List.getElem?_append_right (by simpa using hi), List.getElem?_replicate] at e
    split at e <;> cases e
theorem start_sr {ts : List T} {vs : List V} {nm : List Str} (q : Reps K mg ρ I H vs ts) (hl : vs.length ≤ nm.length) : SR K mg ρ I h H (startT nm.length ts) (L2.start nm vs) := by
  have lq := q.length
  refine ⟨?_, fun i t e => ?_, fun i l e => ?_, fun i j l m a e _ _ _ => ?_⟩
  · unfold startT L2.start
    simp only [List.length_append, List.length_map, List.length_replicate]
    omega
  · unfold startT at e
    unfold L2.start
    by_cases hi : i < ts.length
    · rw [List.getElem?_append_left (by simpa using hi), List.getElem?_map] at e
      cases z : ts[i]? with
      | none => rw [z] at e; cases e
      | some t' =>
        rw [z] at e
        cases e
        obtain ⟨v, q1, q2⟩ := q.get z
        exact ⟨v, by rw [List.getElem?_append_left (by simp; omega), List.getElem?_map, q1]; rfl, q2⟩
    · rw [List.getElem?_append_right (by simpa using hi), List.getElem?_replicate] at e
      split at e <;> cases e
  · exfalso
    unfold startT at e
    by_cases hi : i < ts.length
    · rw [List.getElem?_append_left (by simpa using hi), List.getElem?_map] at e
      cases z : ts[i]? with
      | none => rw [z] at e; cases e
      | some t => rw [z] at e; cases e
    · rw [List.getElem?_append_right (by simpa using hi), List.getElem?_replicate] at e
      split at e <;> cases e
  · exfalso
    unfold startT at e
    by_cases hi : i < ts.length
    · rw [List.getElem?_append_left (by simpa using hi), List.getElem?_map] at e
      cases z : ts[i]? with
      | none => rw [z] at e; cases e
      | some t => rw [z] at e; cases e
    · rw [List.getElem?_append_right (by simpa using hi), List.getElem?_replicate] at e
      split at e <;> cases e
/-- from a fresh frame -/
theorem SExt.start {ts : List T} {n : Nat} {σ σ' : St} {σT' : Slots} (x : SExt ρ I h H (startT n ts) σ ρ' I' h' H' σT' σ') : Ext ρ I h H ρ' I' h' H' :=
  ⟨x.pre, x.sub, fun a d l => x.keep a d l fun o => start_own o, x.dom, fun a i => (x.inew a i).imp id fun z => z.imp id fun z => z.elim id fun o => (start_own o).elim, fun a l => (x.lnew a l).imp id fun z => z.elim id fun o => (start_own o).elim⟩
theorem out_ns {E : XK} {Q : VK} {ts : List T} {n : Nat} {σ : St} {o : SO} (nx : Nx K mg (fun cls d _ H' => E cls d H') [] ρ I h H o.out fun r h' ρ' I' H' => ∀ v, RO K mg ρ' I' h' H' H [] [] v r → Q v H') :
    NS K mg (fun cls d _ H' => E cls d H') ρ I h H (startT n ts) σ o { nx := fun _ H' => Q .non H', rt := Q } := by
  cases o with
  | ok f σ2 h2 =>
    intro ρ2 I2 H2 σ2' x2 r2 s2
    cases f with
    | nx => exact nx ρ2 I2 H2 x2.start r2 .non rfl
    | brk => exact nx.elim
    | ct => exact nx.elim
    | ret r =>
      intro v q
      refine nx ρ2 I2 H2 x2.start r2 v ?_
      cases r with
      | v t => exact q
      | al l =>
        obtain ⟨a, vs, e, z, q⟩ := q
        exact ⟨a, vs, e, z.elim id fun o => (start_own o).elim, q⟩
      | bw i => exact q.elim
  | ex y σ2 h2 => exact fun cls d ρ2 I2 H2 σ2' x2 r2 s2 z => nx cls d ρ2 I2 H2 x2.start r2 z
  | bad => exact nx
end
/-- what stands behind the top -/
structure Top (P : Program) (w : World) (K : PySem.W.Frag) (mg : Str → Option Value) (N : Nms) (F : List FnD) (gv : Nat → Option T) : Prop where
  len : N.n = F.length
  gl : ∀ x t, gv x = some t → ∃ v u, (mg (N.gl x) = some u ∨ (mg (N.gl x) = none ∧ bootBuiltins (N.gl x) = some u ∧ N.gl x ≠ "__name__")) ∧ RelV v u ∧ ∀ ρ I H, Rep K mg ρ I H v t
  fn : ∀ f d, F[f]? = some d → OkF N d ∧ ∃ (a : Addr) (fd : FuncData), mg (N.fn f) = some (.ref a) ∧ FunD K d.d.name d.d.qual d.d.params d.d.body d.d.scope [] [] a fd
  bl : ∀ b : Bf, mg b.name = none
  rg : mg "range" = none
section
variable {P : Program} {w : World} {K : PySem.W.Frag} {mg : Str → Option Value} {N : Nms} {F : List FnD} {gv : Nat → Option T} {base : Heap}
abbrev tds (F : List FnD) : List FD := F.map (·.fd)
theorem call_len {f : Nat} {d : FnD} (e : F[f]? = some d) (o : OkF N d) {k : Nat} {ts : List T} {h : Hs} (n : callK (tds F) gv k f ts h ≠ .bad) : ts.length = d.ps.length := by
  cases k with
  | zero => exact (n rfl).elim
  | succ k =>
    unfold callK at n
    rw [List.getElem?_map, e] at n
    have n : runD ⟨callK (tds F) gv k, gv⟩ d.fd ts h ≠ .bad := n
    unfold runD at n
    split at n
    · rename_i c; rw [c, o.ps]
    · exact (n rfl).elim
theorem fun_ok (T0 : Top P w K mg N F gv) : ∀ (k f : Nat) (d : FnD) (a : Addr) (fd : FuncData), F[f]? = some d → mg (N.fn f) = some (.ref a) → FunD K d.d.name d.d.qual d.d.params d.d.body d.d.scope [] [] a fd →
    FnOk P w K mg base (L2.CX P w) k a fd d.ps (spD K mg (callK (tds F) gv k f) d.ps.length)
  | 0, f, d, a, fd, e, m, D => by
    have no : ∀ {vs H Q E}, spD K mg (callK (tds F) gv 0 f) d.ps.length vs H Q E → False := fun h => by
      obtain ⟨_, ρ, I, h, ts, _, _, n⟩ := h
      exact n.elim
    exact ⟨fun vs H Q E h => (no h).elim, fun A outer s H args us vs Q E hr e0 hb r hs => (no hs).elim⟩
  | k + 1, f, d, a, fd, e, m, D => by
    obtain ⟨ok, _⟩ := T0.fn f d e
    refine D.ok ok.sc (fun vs H Q E h => h.1) (fun cdv A outer s H vs Q E hr h => ?_)
    obtain ⟨hl, ρ, I, hs, ts, hr0, rp, nx⟩ := h
    let X := cxOf (L2.CX P w) P w K mg base d.nm d.d.qual d.d.scope a cdv A outer s H E
    have G : Gs X N ⟨callK (tds F) gv k, gv⟩ k (fun cls d _ H' => E cls d H') :=
      { calm := rfl
        room := hr
        nd := ok.sc.nd
        gl := T0.gl
        fn := fun g hg => by
          have hg' : g < F.length := by rw [← T0.len]; exact hg
          have e' : F[g]? = some F[g] := List.getElem?_eq_getElem hg'
          obtain ⟨ok', a', fd', m', D'⟩ := T0.fn g F[g] e'
          exact ⟨a', fd', F[g].ps, m', D'.kp, FunD.bindsN D' F[g].bind, fun_ok T0 k g F[g] a' fd' e' m' D', fun ts h n => call_len e' ok' n⟩
        bl := T0.bl
        rg := T0.rg
        tk := takes_of rfl rfl rfl rfl
        kind := ok.sc.kind
        fnl := fun _ => rfl
        po := passes_of rfl }
    refine ⟨_, sSs G d.fd.body ok.m, ρ, I, startT d.fd.n ts, hs, hr0, ?_, ?_⟩
    · rw [ok.n]
      exact start_sr rp (by rw [hl]; exact ok.le)
    · unfold callK at nx
      rw [List.getElem?_map, e] at nx
      have nx : Nx K mg (fun cls d _ H' => E cls d H') [] ρ I hs H (runD ⟨callK (tds F) gv k, gv⟩ d.fd ts hs) fun r h' ρ' I' H' => ∀ v, RO K mg ρ' I' h' H' H [] [] v r → Q v H' := nx
      unfold runD at nx
      rw [if_pos (by rw [ok.ps, ← hl, rp.length])] at nx
      exact out_ns nx
end
end VY
namespace VY
open PySem PySem.Spec
open PyProof.Rows hiding St
open L2
mutual
def repB (K : PySem.W.Frag) : T → Value → Bool
  | .non, u => (match u with | .none => true | _ => false)
  | .bl b, u => (match u with | .bool c => b == c | _ => false)
  | .int i, u => (match u with | .int j _ => decide (i = j) | _ => false)
  | .str x, u => (match u with | .str y _ => decide (x = y) | _ => false)
  | .ty n, u => (match u with | .type m => decide (n = m) | _ => false)
  | .gl x, u => (match u with | .ref a => decide (PySem.W.nsIn K mainGlobals x = some (some (.ref a))) | _ => false)
  | .tup l, u => (match u with
    | .ref a => (match K.lookup a with
      | some ⟨.type c, _, .seq its _, _⟩ => decide (c = "tuple") && decide (its.size ≤ sizeLine) && repsB K l its.toList
      | _ => false)
    | _ => false)
  | .slst l, u => (match u with
    | .ref a => (match K.lookup a with
      | some ⟨.type c, none, .seq its _, _⟩ => decide (c = "list") && decide (its.size ≤ sizeLine) && repsB K l its.toList
      | _ => false)
    | _ => false)
  | _, _ => false
def repsB (K : PySem.W.Frag) : List T → List Value → Bool
  | [], [] => true
  | t :: l, u :: us => repB K t u && repsB K l us
  | _, _ => false
end
section
variable {K : PySem.W.Frag} {h : Heap} {mg : Str → Option Value}
mutual
theorem repB_of (X : K.In h) (G : h.Ns mainGlobals mg) : ∀ (t : T) (u : Value), repB K t u = true → ∃ v, RelV v u ∧ ∀ ρ I H, Rep K mg ρ I H v t
  | .non, u, e => by
    unfold repB at e; split at e
    · exact ⟨.non, rfl, fun _ _ _ => rfl⟩
    · exact ff e
  | .bl b, u, e => by
    unfold repB at e; split at e
    · rename_i c
      cases eq_of_beq (show (b == c) = true from e)
      exact ⟨.bl b, rfl, fun _ _ _ => rfl⟩
    · exact ff e
  | .int i, u, e => by
    unfold repB at e; split at e
    · cases of_decide_eq_true e
      exact ⟨.int i, ⟨_, rfl⟩, fun _ _ _ => rfl⟩
    · exact ff e
  | .str x, u, e => by
    unfold repB at e; split at e
    · cases of_decide_eq_true e
      exact ⟨.str x, ⟨_, rfl⟩, fun _ _ _ => rfl⟩
    · exact ff e
  | .ty n, u, e => by
    unfold repB at e; split at e
    · cases of_decide_eq_true e
      exact ⟨.ty n, rfl, fun _ _ _ => rfl⟩
    · exact ff e
  | .gl x, u, e => by
    unfold repB at e; split at e
    · rename_i a
      exact ⟨.ref a, rfl, fun _ _ _ => ⟨a, rfl, PySem.W.mg_of X G (of_decide_eq_true e)⟩⟩
    · exact ff e
  | .tup l, u, e => by
    unfold repB at e; split at e
    · rename_i a
      split at e
      · rename_i o c dd its n sl lk
        have q := and_tt e
        have q1 := and_tt q.1
        obtain ⟨vs, r, p⟩ := repsB_of X G l _ q.2
        exact ⟨.ref a, rfl, fun ρ I H => ⟨a, vs, rfl, .inr ⟨_, its, n, lk, congrArg Value.type (of_decide_eq_true q1.1), rfl, of_decide_eq_true q1.2, r⟩, p ρ I H⟩⟩
      · exact ff e
    · exact ff e
  | .slst l, u, e => by
    unfold repB at e; split at e
    · rename_i a
      split at e
      · rename_i o c its n sl lk
        have q := and_tt e
        have q1 := and_tt q.1
        obtain ⟨vs, r, p⟩ := repsB_of X G l _ q.2
        exact ⟨.ref a, rfl, fun ρ I H => ⟨a, vs, rfl, .inr ⟨_, its, n, lk, congrArg Value.type (of_decide_eq_true q1.1), rfl, rfl, of_decide_eq_true q1.2, r⟩, p ρ I H⟩⟩
      · exact ff e
    · exact ff e
  | .ref _, u, e => by unfold repB at e; exact ff e
  | .lst _, u, e => by unfold repB at e; exact ff e
  | .dct _, u, e => by unfold repB at e; exact ff e
theorem repsB_of (X : K.In h) (G : h.Ns mainGlobals mg) : ∀ (l : List T) (us : List Value), repsB K l us = true → ∃ vs, Vals vs us ∧ ∀ ρ I H, Reps K mg ρ I H vs l
  | [], [], _ => ⟨[], .nil, fun _ _ _ => trivial⟩
  | t :: l, u :: us, e => by
    have q := and_tt e
    obtain ⟨v, r, p⟩ := repB_of X G t u q.1
    obtain ⟨vs, rs, ps⟩ := repsB_of X G l us q.2
    exact ⟨v :: vs, .cons r rs, fun ρ I H => ⟨p ρ I H, ps ρ I H⟩⟩
  | [], _ :: _, e => ff e
  | _ :: _, [], e => ff e
end
end
/-- the module's values by names -/
abbrev Gvs := List (Str × T)
def exB (gs : Gvs) (K : PySem.W.Frag) : Bool := gs.all fun g => match g.2 with
  | .ty _ => decide (PySem.W.nsIn K mainGlobals g.1 = some none)
  | t => (match PySem.W.nsIn K mainGlobals g.1 with
    | some (some u) => repB K t u
    | _ => false)
/-- the built-in types -/
def tyB (gs : Gvs) : Bool := gs.all fun g => match g.2 with
  | .ty n => (match bootBuiltins g.1 with
    | some (.type m) => decide (m = n) && decide (g.1 ≠ "__name__")
    | _ => false)
  | _ => true
def allBf : List Bf := [.len, .abs, .int, .str, .isinstance, .max, .min, .tuple, .list]
theorem allBf_all : ∀ b : Bf, b ∈ allBf := fun b => by cases b <;> simp [allBf]
def faOf (F : List FnD) : List He.Fa := F.map (fun f => .glo f.d.name) ++ ((He.Fa.free "range") :: allBf.map fun b => .free b.name)
def nmsOf (F : List FnD) (gs : Gvs) : Nms := ⟨F.length, fun f => (F[f]?.map (·.d.name)).getD Str.empty, fun g => (gs[g]?.map (·.1)).getD Str.empty⟩
def gvOf (gs : Gvs) : Nat → Option T := fun g => gs[g]?.map (·.2)
def okAll (F : List FnD) (gs : Gvs) : Bool := F.all fun f => okF (nmsOf F gs) f && decide (f.d.at_ = (f.d.name, none))
abbrev vyHook (n : Nat) (F : List FnD) (gs : Gvs) : PySem.W.Hook := He.hookX n (faOf F) (F.map (·.d)) [] [] (exB gs)
theorem top_of {P : Program} {w : World} {K : PySem.W.Frag} {h : Heap} {mg : Str → Option Value} {F : List FnD} {gs : Gvs} (X : K.In h) (G : h.Ns mainGlobals mg) (c : He.SaysX (faOf F) (F.map (·.d)) [] [] (exB gs) w h K) (ok : okAll F gs = true) (tb : tyB gs = true) :
    Top P w K mg (nmsOf F gs) F (gvOf gs) where
  len := rfl
  gl := fun x t e => by
    unfold gvOf at e
    cases eg : gs[x]? with
    | none => rw [eg] at e; cases e
    | some g =>
      rw [eg] at e
      cases e
      have hn : (nmsOf F gs).gl x = g.1 := by show (gs[x]?.map (·.1)).getD Str.empty = g.1; rw [eg]; rfl
      rw [hn]
      have hm := List.all_eq_true.mp c.more g (List.mem_of_getElem? eg)
      have ht := List.all_eq_true.mp tb g (List.mem_of_getElem? eg)
      have key : (∀ n, g.2 ≠ .ty n) → ∃ v u, (mg g.1 = some u ∨ (mg g.1 = none ∧ bootBuiltins g.1 = some u ∧ g.1 ≠ "__name__")) ∧ RelV v u ∧ ∀ ρ I H, Rep K mg ρ I H v g.2 := fun nt => by
        have hm2 : (match PySem.W.nsIn K mainGlobals g.1 with
          | some (some u) => repB K g.2 u
          | _ => false) = true := by
          split at hm
          · rename_i n e; exact (nt n e).elim
          · exact hm
        split at hm2
        · rename_i u e
          obtain ⟨v, r, p⟩ := repB_of X G g.2 u hm2
          exact ⟨v, u, .inl (PySem.W.mg_of X G e), r, p⟩
        · exact ff hm2
      cases et : g.2 with
      | ty n =>
        rw [et] at hm ht
        simp only [] at hm ht
        split at ht
        · rename_i m eb
          have q := and_tt ht
          have em : m = n := of_decide_eq_true q.1
          subst em
          show ∃ v u, _ ∧ _ ∧ ∀ ρ I H, Rep K mg ρ I H v g.2
          rw [et]
          exact ⟨.ty m, .type m, .inr ⟨PySem.W.mg_none_of X G (of_decide_eq_true hm), eb, of_decide_eq_true q.2⟩, rfl, fun _ _ _ => rfl⟩
        · exact ff ht
      | _ => exact key fun n z => by rw [et] at z; cases z
  fn := fun f d e => by
    have hm := List.mem_of_getElem? e
    have q := and_tt (List.all_eq_true.mp ok d hm)
    have o := okF_of q.1
    have ea := of_decide_eq_true q.2
    obtain ⟨fd, D⟩ := c.t.d.defs (d := d.d) (List.mem_map_of_mem (f := fun x : FnD => x.d) hm)
    have hn : (nmsOf F gs).fn f = d.d.name := by show (F[f]?.map (·.d.name)).getD Str.empty = d.d.name; rw [e]; rfl
    have g := He.glo_ok X G (c.t.d.facts (f := .glo d.d.name) (List.mem_append_left _ (List.mem_map_of_mem (f := fun x : FnD => He.Fa.glo x.d.name) hm)))
    have ef : He.fAd K d.d.at_ = He.ga K d.d.name := by rw [ea]; rfl
    have d0 : d.d.dvs K = [] := by unfold He.DefD.dvs; rw [o.dfl]; rfl
    have k0 : d.d.kws K = [] := by unfold He.DefD.kws; rw [o.kwd]; rfl
    rw [d0, k0] at D
    refine ⟨o, He.fAd K d.d.at_, fd, ?_, D⟩
    rw [hn, ef]
    exact g
  bl := fun b => He.free_ok X G (c.t.d.facts (f := .free b.name) (List.mem_append_right _ (List.mem_cons_of_mem _ (List.mem_map_of_mem (f := fun b : Bf => He.Fa.free b.name) (allBf_all b)))))
  rg := He.free_ok X G (c.t.d.facts (f := .free "range") (List.mem_append_right _ List.mem_cons_self))
/-- the law's def, called with a script -/
theorem vy_law {P : Program} {w : World} {K : PySem.W.Frag} {h : Heap} {mg : Str → Option Value} {F : List FnD} {gs : Gvs} (X : K.In h) (G : h.Ns mainGlobals mg) (c : He.SaysX (faOf F) (F.map (·.d)) [] [] (exB gs) w h K) (ok : okAll F gs = true) (tb : tyB gs = true)
    {li k most : Nat} {dl : FnD} {x : Str} {fa : Addr} (e : F[li]? = some dl) (ep : dl.ps = [x]) (hfa : mg dl.d.name = some (.ref fa))
    (hl : ∀ ns : List Int, ns.length ≤ most → ∃ h', callK (tds F) (gvOf gs) k li [.slst (ns.map .int)] [] = .ok (.v (.bl true)) h') :
    ∃ (fd : FuncData) (sp : Sp), (∀ (s : Shared) (u : Value), BindsTo s fd ⟨[u], []⟩ [(x, u)]) ∧
      (∀ (H : Hp) (a : Addr) (ns : List Int), ns.length ≤ most → Only H → SqL K H a (ns.map V.int) → sp [.ref a] H (fun v _ => v = .bl true) fun _ _ _ => False) ∧
      ∀ base : Heap, K.In base → base.Ns mainGlobals mg → FnOk P w K mg base (L2.CX P w) k fa fd [x] sp := by
  have T0 := top_of (P := P) X G c ok tb
  obtain ⟨o, a, fd, m, D⟩ := T0.fn li dl e
  have hn : (nmsOf F gs).fn li = dl.d.name := by show (F[li]?.map (·.d.name)).getD Str.empty = dl.d.name; rw [e]; rfl
  have ea : a = fa := by rw [hn, hfa] at m; cases m; rfl
  subst ea
  have b := FunD.bindsA D dl.bind
  rw [ep] at b
  refine ⟨fd, spD K mg (callK (tds F) (gvOf gs) k li) dl.ps.length, fun s u => b s [u] rfl, fun H a ns hle _ hS => ?_, fun base _ _ => by rw [← ep]; exact fun_ok T0 k li dl a fd e m D⟩
  rw [ep]
  obtain ⟨h', hc⟩ := hl ns hle
  have reps : ∀ ρ I, Reps K mg ρ I H (ns.map V.int) (ns.map T.int) := fun ρ I => by
    clear hle hS hc hl
    induction ns with
    | nil => exact trivial
    | cons n ns ih => exact ⟨rfl, ih⟩
  have done : ∀ I : Addr → Prop, (∀ b, I b → (H b).isSome) → ((I a ∧ Rd H a (.lst (ns.map V.int))) ∨ StL K a (ns.map V.int)) → spD K mg (callK (tds F) (gvOf gs) k li) [x].length [.ref a] H (fun v _ => v = .bl true) fun _ _ _ => False := fun I hI hr => by
    refine ⟨rfl, [], I, [], [.slst (ns.map .int)], ⟨rfl, fun n m a o o' e => by simp at e, fun a l => ?_, hI, fun n o a e => by simp at e⟩, ⟨⟨a, ns.map V.int, rfl, hr, reps _ _⟩, trivial⟩, ?_⟩
    · obtain ⟨n, o, e, _⟩ := l
      simp at e
    · rw [hc]
      exact fun ρ' I' H' x' r' v q => q
  rcases hS with hS | ⟨o, its, n, lk, c1, c2, c3, c4, c5⟩
  · refine done (fun b => b = a) (fun b e => ?_) (.inl ⟨rfl, hS⟩)
    subst e
    rcases hS with z | ⟨_, z⟩ <;> rw [z] <;> rfl
  · exact done (fun _ => False) (fun _ z => z.elim) (.inr ⟨o, its, n, lk, c1, c2, c3, c4, c5⟩)
/-- the walk over a law whose def may raise: what may come out depends on the world -/
theorem walk_vy {l : PySem.W.OpenLaw} {n k : Nat} {q : Program} {loose : List Str} {XP : (Str → Option Value) → Heap → Prop} {YP : World → Heap → Prop} {d : DefRec} {x : Str} (hn : l.most = some n) (hn2 : n ≤ sizeLine) (hdf : d.params.defaults = []) (hr : Room k callerA)
    (told : ∀ (w : World) (mg : Str → Option Value) (fa : Addr) (h : Heap), YP w h → h.Ns mainGlobals mg → mg d.name = some (.ref fa) →
      ∃ (K : PySem.W.Frag) (fd : FuncData) (sp : Sp), K.In h ∧ (∀ (s : Shared) (u : Value), BindsTo s fd ⟨[u], []⟩ [(x, u)]) ∧
        (∀ (H : Hp) (a : Addr) (ns : List Int), ns.length ≤ n → Only H → SqL K H a (ns.map V.int) → sp [.ref a] H (fun v _ => v = .bl true) fun _ _ _ => False) ∧
        ∀ base : Heap, K.In base → base.Ns mainGlobals mg → FnOk l.prog w K mg base (L2.CX l.prog w) k fa fd [x] sp) : PySem.W.WalkO q loose XP YP l.row.toRowW d [] (fun f vs => PySem.call f vs) := by
  refine Att.attach_call hn hdf fun w z z1 mg mb fa o pm cd doc a ns' ns G Y _ _ _ hmg ho hi hle hg => ?_
  obtain ⟨K, fd, sp, KX, hb, hs, hF⟩ := told w mg fa _ Y G.T.g hmg
  refine law_call KX G.T.g G.T.b G.T.builtins G.T.nolimit hg ho hi (Nat.le_trans hle hn2) hr hF hb (fun H hO hS => hs H a ns hle hO hS) fun H e s' => ?_
  rintro ⟨_, _, _, _, _, _, _, _, _, _, _, _, z⟩
  exact z
end VY
namespace VY
open PySem
section
variable (Γ : Ctx) (σ : Slots) (h : Hs)
def varE (i : Nat) (o : Option (Option Sl)) (h : Hs) : Out R := match o with
  | some (some (.v t)) => .ok (.v t) h
  | some (some (.al _)) => .ok (.bw i) h
  | _ => .bad
@[simp] theorem varE_v (i : Nat) (t : T) : varE i (some (some (.v t))) h = .ok (.v t) h := (rfl)
@[simp] theorem varE_al (i : Nat) (l : List T) : varE i (some (some (.al l))) h = .ok (.bw i) h := (rfl)
@[simp] theorem CT_int (i : Int) : (CT.int i).t = .int i := (rfl)
@[simp] theorem CT_str (i : Str) : (CT.str i).t = .str i := (rfl)
@[simp] theorem CT_bl (i : Bool) : (CT.bl i).t = .bl i := (rfl)
@[simp] theorem CT_non : CT.non.t = .non := (rfl)
@[simp] theorem evE_c (k : CT) : evE Γ (.c k) σ h = .ok (.v k.t) h := by rw [evE]
@[simp] theorem evE_var (i : Nat) : evE Γ (.var i) σ h = varE i σ[i]? h := by
  rw [evE]; unfold varE; rfl
@[simp] theorem evE_gl (x : Nat) : evE Γ (.gl x) σ h = lift ((Γ.gv x).map .v) h := by rw [evE]
@[simp] theorem evE_bin (op : Operator) (a b : E) : evE Γ (.bin op a b) σ h = (evE Γ a σ h).bind fun x h1 => (evE Γ b σ h1).bind fun y h2 => opL σ op x y h2 := by rw [evE]
def negL (x : R) (h : Hs) : Out R := match x with
  | .v (.int i) => .ok (.v (.int (-i))) h
  | _ => .bad
@[simp] theorem negL_int (i : Int) : negL (.v (.int i)) h = .ok (.v (.int (-i))) h := (rfl)
@[simp] theorem evE_neg (a : E) : evE Γ (.neg a) σ h = (evE Γ a σ h).bind negL := by rw [evE]; rfl
@[simp] theorem evE_not (a : E) : evE Γ (.not a) σ h = (evE Γ a σ h).bind fun x h1 => (truL σ x h1).bind fun b h2 => .ok (.v (.bl (!b))) h2 := by rw [evE]
@[simp] theorem evE_bop (op : BoolOp) (es : List E) : evE Γ (.bop op es) σ h = evB Γ op es σ h := by rw [evE]
@[simp] theorem evE_cmp (op : CmpOp) (a b : E) : evE Γ (.cmp op a b) σ h = (evE Γ a σ h).bind fun x h1 => (evE Γ b σ h1).bind fun y h2 => (cmpL σ op x y h2).bind fun k h3 => .ok (.v (.bl k)) h3 := by rw [evE]
@[simp] theorem evE_ch (op op' : CmpOp) (a b c : E) : evE Γ (.ch op op' a b c) σ h = (evE Γ a σ h).bind fun x h1 => (evE Γ b σ h1).bind fun y h2 => (cmpL σ op x y h2).bind fun k h3 =>
      if k then (evE Γ c σ h3).bind fun z h4 => (cmpL σ op' y z h4).bind fun k' h5 => .ok (.v (.bl k')) h5 else .ok (.v (.bl false)) h3 := by rw [evE]
@[simp] theorem evE_ife (c : C) (a b : E) : evE Γ (.ife c a b) σ h = (evC Γ c σ h).bind fun k h1 => if k then evE Γ a σ h1 else evE Γ b σ h1 := by rw [evE]
@[simp] theorem evE_tup (es : List E) : evE Γ (.tup es) σ h = (evEs Γ es σ h).bind fun ts h1 => if ts.length ≤ SL then .ok (.v (.tup ts)) h1 else .bad := by rw [evE]
@[simp] theorem evE_lst (es : List E) : evE Γ (.lst es) σ h = (evEs Γ es σ h).bind fun ts h1 => if ts.length ≤ SL then .ok (.al ts) h1 else .bad := by rw [evE]
@[simp] theorem evE_ix (a b : E) : evE Γ (.ix a b) σ h = (evE Γ a σ h).bind fun x h1 => (evE Γ b σ h1).bind fun y h2 => ixL σ x y h2 := by rw [evE]
def slL (σ : Slots) (x : R) (l u : Option Int) (h : Hs) : Out R := match peek σ x with
  | some t => lift (slR t l u) h
  | none => .bad
@[simp] theorem evE_sl (a : E) (lo hi : O) : evE Γ (.sl a lo hi) σ h = (evE Γ a σ h).bind fun x h1 => (evO Γ lo σ h1).bind fun l h2 => (evO Γ hi σ h2).bind fun u h3 => slL σ x l u h3 := by rw [evE]; rfl
@[simp] theorem evE_call (f : Nat) (es : List E) : evE Γ (.call f es) σ h = (evEs Γ es σ h).bind fun ts h1 => Γ.call f ts h1 := by rw [evE]
@[simp] theorem evE_blt (f : Bf) (es : List E) : evE Γ (.blt f es) σ h = (evPs Γ es σ h).bind fun ts h1 => lift (bltR f ts) h1 := by rw [evE]
/-- one turn of a comprehension -/
def lcT (Γ : Ctx) (elt : E) (tg : Tg) (cond : C) (σ : Slots) (x : T) (h' : Hs) : Out (Option T) := noex (match asgT tg x (wipeT σ tg.ixs) with
        | some σ2 => (evC Γ cond σ2 h').bind fun b h2 => if b then (evE Γ elt σ2 h2).bind fun r h3 => lift ((frz r).map some) h3 else .ok none h2
        | none => .bad)
@[simp] theorem evE_lc (elt : E) (tg : Tg) (it : It) (cond : C) : evE Γ (.lc elt tg it cond) σ h = (evIt Γ true it σ h).bind fun p h1 => (lcL (lcT Γ elt tg cond σ) p [] h1).bind fun l h2 => .ok (.al l) h2 := by rw [evE]; rfl
@[simp] theorem evB_one (op : BoolOp) (e : E) : evB Γ op [e] σ h = evE Γ e σ h := by rw [evB]; rfl
@[simp] theorem evB_two (op : BoolOp) (e e' : E) (es : List E) : evB Γ op (e :: e' :: es) σ h = (evE Γ e σ h).bind fun x h1 => (truL σ x h1).bind fun k h2 => if k == (op == .Or) then .ok x h2 else evB Γ op (e' :: es) σ h2 := by rw [evB]; rfl
@[simp] theorem evC_yes : evC Γ .yes σ h = .ok true h := by rw [evC]
@[simp] theorem evC_t (e : E) : evC Γ (.t e) σ h = (evE Γ e σ h).bind fun x h1 => truL σ x h1 := by rw [evC]
@[simp] theorem evC_not (c : C) : evC Γ (.not c) σ h = (evC Γ c σ h).bind fun b h1 => .ok (!b) h1 := by rw [evC]
@[simp] theorem evC_bop (op : BoolOp) (cs : List C) : evC Γ (.bop op cs) σ h = evCs Γ op cs σ h := by rw [evC]
@[simp] theorem evCs_one (op : BoolOp) (c : C) : evCs Γ op [c] σ h = evC Γ c σ h := by rw [evCs]; rfl
@[simp] theorem evCs_two (op : BoolOp) (c c' : C) (cs : List C) : evCs Γ op (c :: c' :: cs) σ h = (evC Γ c σ h).bind fun k h1 => if k == (op == .Or) then .ok k h1 else evCs Γ op (c' :: cs) σ h1 := by rw [evCs]; rfl
def consF (x : R) (o : Hs → Out (List T)) (h : Hs) : Out (List T) := match frz x with
  | some t => (o h).bind fun ts h2 => .ok (t :: ts) h2
  | none => .bad
@[simp] theorem consF_v (t : T) (o : Hs → Out (List T)) : consF (.v t) o h = (o h).bind fun ts h2 => .ok (t :: ts) h2 := (rfl)
@[simp] theorem consF_al (l : List T) (o : Hs → Out (List T)) : consF (.al l) o h = (o h).bind fun ts h2 => .ok (.lst l :: ts) h2 := (rfl)
@[simp] theorem evEs_nil : evEs Γ [] σ h = .ok [] h := by rw [evEs]
@[simp] theorem evEs_cons (e : E) (es : List E) : evEs Γ (e :: es) σ h = (evE Γ e σ h).bind fun x h1 => consF x (evEs Γ es σ) h1 := by rw [evEs]; rfl
def consP (σ : Slots) (x : R) (o : Hs → Out (List T)) (h : Hs) : Out (List T) := match peek σ x with
  | some t => (o h).bind fun ts h2 => .ok (t :: ts) h2
  | none => .bad
@[simp] theorem consP_v (t : T) (o : Hs → Out (List T)) : consP σ (.v t) o h = (o h).bind fun ts h2 => .ok (t :: ts) h2 := (rfl)
@[simp] theorem consP_al (l : List T) (o : Hs → Out (List T)) : consP σ (.al l) o h = (o h).bind fun ts h2 => .ok (.lst l :: ts) h2 := (rfl)
theorem consP_bw {i : Nat} {l : List T} (e : σ[i]? = some (some (.al l))) (o : Hs → Out (List T)) : consP σ (.bw i) o h = (o h).bind fun ts h2 => .ok (.lst l :: ts) h2 := by simp [consP, peek, e]
@[simp] theorem evPs_nil : evPs Γ [] σ h = .ok [] h := by rw [evPs]
@[simp] theorem evPs_cons (e : E) (es : List E) : evPs Γ (e :: es) σ h = (evE Γ e σ h).bind fun x h1 => consP σ x (evPs Γ es σ) h1 := by rw [evPs]; rfl
@[simp] theorem evO_no : evO Γ .no σ h = .ok none h := by rw [evO]
def intL (x : R) (h : Hs) : Out (Option Int) := match x with
  | .v (.int i) => .ok (some i) h
  | _ => .bad
@[simp] theorem intL_int (i : Int) : intL (.v (.int i)) h = .ok (some i) h := (rfl)
@[simp] theorem evO_at (e : E) : evO Γ (.at e) σ h = (evE Γ e σ h).bind intL := by rw [evO]; rfl
def itL (own : Bool) (σ : Slots) (r : R) (h : Hs) : Out (List T) := match (if own then peek σ r else frz r) with
    | some t => lift (itemsT t) h
    | none => .bad
@[simp] theorem itL_v (own : Bool) (t : T) : itL own σ (.v t) h = lift (itemsT t) h := by cases own <;> rfl
@[simp] theorem itL_al (own : Bool) (l : List T) : itL own σ (.al l) h = .ok l h := by cases own <;> rfl
@[simp] theorem evIt_e (own : Bool) (x : E) : evIt Γ own (.e x) σ h = (evE Γ x σ h).bind fun r h1 => itL own σ r h1 := by rw [evIt]; rfl
def rg1L (x : R) (h : Hs) : Out (List T) := match x with
  | .v (.int j) => lift (rngT 0 j) h
  | _ => .bad
@[simp] theorem rg1L_int (j : Int) : rg1L (.v (.int j)) h = lift (rngT 0 j) h := (rfl)
@[simp] theorem evIt_r1 (own : Bool) (a : E) : evIt Γ own (.r1 a) σ h = (evE Γ a σ h).bind rg1L := by rw [evIt]; rfl
def rg2L (r s : R) (h : Hs) : Out (List T) := match r, s with
  | .v (.int i), .v (.int j) => lift (rngT i j) h
  | _, _ => .bad
@[simp] theorem rg2L_int (i j : Int) : rg2L (.v (.int i)) (.v (.int j)) h = lift (rngT i j) h := (rfl)
@[simp] theorem evIt_r2 (own : Bool) (a b : E) : evIt Γ own (.r2 a b) σ h = (evE Γ a σ h).bind fun r h1 => (evE Γ b σ h1).bind fun s h2 => rg2L r s h2 := by rw [evIt]; rfl
@[simp] theorem evS_asg (i : Nat) (e : E) : evS Γ (.asg i e) σ h = sb σ (evE Γ e σ h) fun r h1 => liftS ((putR r).map fun s => σ.set i (some s)) h1 := by rw [evS]
@[simp] theorem evS_asgT (tg : Tg) (e : E) : evS Γ (.asgT tg e) σ h = sb σ (evE Γ e σ h) fun r h1 => liftS ((frz r).bind fun t => asgT tg t σ) h1 := by rw [evS]
def setS (σ : Slots) (o : Option Hs) : SO := match o with
  | some h4 => .ok .nx σ h4
  | none => .bad
@[simp] theorem setS_some (h4 : Hs) : setS σ (some h4) = .ok .nx σ h4 := (rfl)
@[simp] theorem evS_setIx (o i e : E) : evS Γ (.setIx o i e) σ h = sb σ (evE Γ e σ h) fun r h1 => sb σ (evE Γ o σ h1) fun x h2 => sb σ (evE Γ i σ h2) fun y h3 => setS σ (setL r x y h3) := by rw [evS]; rfl
@[simp] theorem evS_expr (e : E) : evS Γ (.expr e) σ h = sb σ (evE Γ e σ h) fun _ h1 => .ok .nx σ h1 := by rw [evS]
@[simp] theorem evS_ret (e : E) : evS Γ (.ret e) σ h = sb σ (evE Γ e σ h) fun r h1 => retS σ r h1 := by rw [evS]
def rtS (i : Nat) (σ : Slots) (o : Option (Option Sl)) (h : Hs) : SO := match o with
  | some (some (.al l)) => .ok (.ret (.al l)) (σ.set i none) h
  | _ => .bad
@[simp] theorem rtS_al (i : Nat) (l : List T) : rtS i σ (some (some (.al l))) h = .ok (.ret (.al l)) (σ.set i none) h := (rfl)
@[simp] theorem evS_retS (i : Nat) : evS Γ (.retS i) σ h = rtS i σ σ[i]? h := by rw [evS]; rfl
@[simp] theorem evS_retN : evS Γ .retN σ h = .ok (.ret (.v .non)) σ h := by rw [evS]
@[simp] theorem evS_ife (c : C) (a b : List S) : evS Γ (.ife c a b) σ h = sb σ (evC Γ c σ h) fun k h1 => if k then evSs Γ a σ h1 else evSs Γ b σ h1 := by rw [evS]
/-- a loop's turn -/
def forB (Γ : Ctx) (tg : Tg) (body : List S) : T → Slots → Hs → SO := fun x σ' h' => (liftS (asgT tg x σ') h').seq (evSs Γ body)
theorem forB_nm (i : Nat) (body : List S) (x : T) : forB Γ (.nm i) body x σ h = evSs Γ body (σ.set i (some (.v x))) h := by unfold forB; rw [asgT]; rfl
@[simp] theorem evS_for (tg : Tg) (it : It) (body : List S) : evS Γ (.for tg it body) σ h = sb σ (evIt Γ false it σ h) fun p h1 => forL (forB Γ tg body) p σ h1 := by rw [evS]; rfl
@[simp] theorem evS_whl (c : C) (body : List S) : evS Γ (.whl c body) σ h = whlL (evC Γ c) (evSs Γ body) whlMost σ h := by rw [evS]
@[simp] theorem evS_brk : evS Γ .brk σ h = .ok .brk σ h := by rw [evS]
@[simp] theorem evS_cnt : evS Γ .cnt σ h = .ok .ct σ h := by rw [evS]
@[simp] theorem evS_pass : evS Γ .pass σ h = .ok .nx σ h := by rw [evS]
@[simp] theorem evS_app (i : Nat) (e : E) : evS Γ (.app i e) σ h = if appOk h σ[i]? then sb σ (evE Γ e σ h) fun r h1 => appS σ i r h1 else .bad := by rw [evS]
@[simp] theorem evS_par2 (i j : Nat) (a b : E) : evS Γ (.par2 i j a b) σ h = sb σ (evE Γ a σ h) fun r h1 => sb σ (evE Γ b σ h1) fun s h2 => liftS ((putR r).bind fun x => (putR s).map fun y => (σ.set i (some x)).set j (some y)) h2 := by rw [evS]
@[simp] theorem evS_par3 (i j l : Nat) (a b c : E) : evS Γ (.par3 i j l a b c) σ h = sb σ (evE Γ a σ h) fun r h1 => sb σ (evE Γ b σ h1) fun s h2 => sb σ (evE Γ c σ h2) fun t h3 =>
      liftS ((putR r).bind fun x => (putR s).bind fun y => (putR t).map fun z => ((σ.set i (some x)).set j (some y)).set l (some z)) h3 := by rw [evS]
def fzS (i : Nat) (σ : Slots) (o : Option (Option Sl)) (h : Hs) : SO := match o with
  | some (some (.al l)) => .ok .nx (σ.set i (some (.v (.lst l)))) h
  | _ => .bad
@[simp] theorem fzS_al (i : Nat) (l : List T) : fzS i σ (some (some (.al l))) h = .ok .nx (σ.set i (some (.v (.lst l)))) h := (rfl)
@[simp] theorem evS_fz (i : Nat) : evS Γ (.fz i) σ h = fzS i σ σ[i]? h := by rw [evS]; rfl
def prS (i : Nat) (σ : Slots) (o : Option (Option Sl)) (h : Hs) : SO := match o with
  | some (some (.al l)) => .ok .nx (σ.set i (some (.v (.ref h.length)))) (h ++ [.lst l])
  | _ => .bad
@[simp] theorem prS_al (i : Nat) (l : List T) : prS i σ (some (some (.al l))) h = .ok .nx (σ.set i (some (.v (.ref h.length)))) (h ++ [.lst l]) := (rfl)
@[simp] theorem evS_pr (i : Nat) : evS Γ (.pr i) σ h = prS i σ σ[i]? h := by rw [evS]; rfl
@[simp] theorem evSs_nil : evSs Γ [] σ h = .ok .nx σ h := by rw [evSs]
@[simp] theorem evSs_cons (s : S) (ss : List S) : evSs Γ (s :: ss) σ h = (evS Γ s σ h).seq (evSs Γ ss) := by rw [evSs]
@[simp] theorem putR_v (t : T) : putR (.v t) = some (.v t) := (rfl)
@[simp] theorem putR_al (l : List T) : putR (.al l) = some (.al l) := (rfl)
@[simp] theorem frz_v (t : T) : frz (.v t) = some t := (rfl)
@[simp] theorem frz_al (l : List T) : frz (.al l) = some (.lst l) := (rfl)
@[simp] theorem retS_v (t : T) : retS σ (.v t) h = .ok (.ret (.v t)) σ h := (rfl)
@[simp] theorem retS_al (l : List T) : retS σ (.al l) h = .ok (.ret (.al l)) σ h := (rfl)
@[simp] theorem out_ret (r : R) : (SO.ok (.ret r) σ h).out = .ok r h := (rfl)
@[simp] theorem out_nx : (SO.ok .nx σ h).out = .ok (.v .non) h := (rfl)
@[simp] theorem out_ex (x : Xn) : (SO.ex x σ h).out = .ex x h := (rfl)
@[simp] theorem asgT_nm (i : Nat) (t : T) : asgT (.nm i) t σ = some (σ.set i (some (.v t))) := by rw [asgT]
@[simp] theorem asgT_tp (l : List Tg) (ts : List T) : asgT (.tp l) (.tup ts) σ = asgTs l ts σ := by rw [asgT]
@[simp] theorem asgTs_nil : asgTs [] [] σ = some σ := by rw [asgTs]
@[simp] theorem asgTs_cons (g : Tg) (l : List Tg) (t : T) (ts : List T) : asgTs (g :: l) (t :: ts) σ = (asgT g t σ).bind (asgTs l ts) := by
  rw [asgTs]; cases asgT g t σ <;> rfl
@[simp] theorem forL_nil (body : T → Slots → Hs → SO) : forL body [] σ h = .ok .nx σ h := (rfl)
theorem forL_cons (body : T → Slots → Hs → SO) (x : T) (xs : List T) : forL body (x :: xs) σ h = (body x σ h).turn (forL body xs) := (rfl)
@[simp] theorem lcL_nil (f : T → Hs → Out (Option T)) (acc : List T) : lcL f [] acc h = .ok acc h := (rfl)
@[simp] theorem opL_v (op : Operator) (t u : T) : opL σ op (.v t) (.v u) h = lift (opR op t u) h := (rfl)
@[simp] theorem opL_al (op : Operator) (l : List T) (u : T) : opL σ op (.al l) (.v u) h = lift (opR op (.lst l) u) h := (rfl)
@[simp] theorem truL_v (t : T) : truL σ (.v t) h = lift (truT t) h := (rfl)
@[simp] theorem truL_al (l : List T) : truL σ (.al l) h = .ok (!l.isEmpty) h := (rfl)
@[simp] theorem cmpL_v (op : CmpOp) (t u : T) : cmpL σ op (.v t) (.v u) h = lift (cmpR op t u) h := (rfl)
@[simp] theorem cmpL_va (op : CmpOp) (t : T) (l : List T) : cmpL σ op (.v t) (.al l) h = lift (cmpR op t (.lst l)) h := (rfl)
@[simp] theorem cmpL_av (op : CmpOp) (t : T) (l : List T) : cmpL σ op (.al l) (.v t) h = lift (cmpR op (.lst l) t) h := (rfl)
@[simp] theorem cmpL_aa (op : CmpOp) (l m : List T) : cmpL σ op (.al l) (.al m) h = lift (cmpR op (.lst l) (.lst m)) h := (rfl)
def refI (o : Option HOb) (i : Int) (h : Hs) : Out R := match o with
  | some (.lst l) => lift ((L2.atI l i).map .v) h
  | _ => .bad
@[simp] theorem refI_lst (l : List T) (i : Int) : refI (some (.lst l)) i h = lift ((L2.atI l i).map .v) h := (rfl)
@[simp] theorem ixL_ref (n : Nat) (i : Int) : ixL σ (.v (.ref n)) (.v (.int i)) h = refI h[n]? i h := (rfl)
@[simp] theorem ixL_tup (l : List T) (i : Int) : ixL σ (.v (.tup l)) (.v (.int i)) h = lift ((L2.atI l i).map .v) h := (rfl)
@[simp] theorem ixL_lst (l : List T) (i : Int) : ixL σ (.v (.lst l)) (.v (.int i)) h = lift ((L2.atI l i).map .v) h := (rfl)
@[simp] theorem ixL_slst (l : List T) (i : Int) : ixL σ (.v (.slst l)) (.v (.int i)) h = lift ((L2.atI l i).map .v) h := (rfl)
@[simp] theorem ixL_al (l : List T) (i : Int) : ixL σ (.al l) (.v (.int i)) h = lift ((L2.atI l i).map .v) h := (rfl)
theorem ixL_bw {j : Nat} {l : List T} (e : σ[j]? = some (some (.al l))) (i : Int) : ixL σ (.bw j) (.v (.int i)) h = lift ((L2.atI l i).map .v) h := by simp [ixL, peek, e, ixR]
@[simp] theorem slL_v (t : T) (l u : Option Int) : slL σ (.v t) l u h = lift (slR t l u) h := (rfl)
@[simp] theorem slL_al (t : List T) (l u : Option Int) : slL σ (.al t) l u h = .ok (.al (cutT t l u)) h := (rfl)
@[simp] theorem slR_lst (t : List T) (l u : Option Int) : slR (.lst t) l u = some (.al (cutT t l u)) := (rfl)
@[simp] theorem opR_add (i j : Int) : opR .Add (.int i) (.int j) = some (.v (.int (i + j))) := (rfl)
@[simp] theorem opR_sub (i j : Int) : opR .Sub (.int i) (.int j) = some (.v (.int (i - j))) := (rfl)
theorem opR_mul {i j : Int} (e : mulOk i j = true) : opR .Mult (.int i) (.int j) = some (.v (.int (i * j))) := if_pos e
theorem opR_div {i j : Int} (e : 0 < j) (l : j.natAbs.log2 < 9000) : opR .FloorDiv (.int i) (.int j) = some (.v (.int (i / j))) := by
  show (fdivT i j).map _ = _
  unfold fdivT; rw [if_pos ⟨e, l⟩]; rfl
theorem opR_mod {i j : Int} (e : 0 < j) : opR .Mod (.int i) (.int j) = some (.v (.int (i % j))) := by
  show (modT i j).map _ = _
  unfold modT; rw [if_pos e]; rfl
theorem opR_pow {i j : Int} (e : 0 ≤ j) (l : (Builtin.Int.intBits i : Int) * j ≤ 2 ^ 27) : opR .Pow (.int i) (.int j) = some (.v (.int (i ^ j.toNat))) := by
  show (powT i j).map _ = _
  unfold powT; rw [if_pos ⟨e, l⟩]; rfl
theorem mulOk_l {i j : Int} (a : -(2 ^ 64) < i) (b : i < 2 ^ 64) : mulOk i j = true := by unfold mulOk; rw [decide_eq_true ⟨a, b⟩]; rfl
theorem mulOk_r {i j : Int} (a : -(2 ^ 64) < j) (b : j < 2 ^ 64) : mulOk i j = true := by unfold mulOk; rw [decide_eq_true (p := _ ∧ j < 2 ^ 64) ⟨a, b⟩]; simp
@[simp] theorem cmpR_lt (i j : Int) : cmpR .Lt (.int i) (.int j) = some (decide (i < j)) := (rfl)
@[simp] theorem cmpR_le (i j : Int) : cmpR .LtE (.int i) (.int j) = some (decide (i ≤ j)) := (rfl)
@[simp] theorem cmpR_gt (i j : Int) : cmpR .Gt (.int i) (.int j) = some (decide (j < i)) := (rfl)
@[simp] theorem cmpR_ge (i j : Int) : cmpR .GtE (.int i) (.int j) = some (decide (j ≤ i)) := (rfl)
@[simp] theorem cmpR_is (t : T) : cmpR .Is t .non = some (match t with | .non => true | _ => false) := (rfl)
@[simp] theorem cmpR_isnot (t : T) : cmpR .IsNot t .non = some (match t with | .non => false | _ => true) := (rfl)
@[simp] theorem cmpR_eq (t u : T) : cmpR .Eq t u = eqT t u := (rfl)
@[simp] theorem cmpR_ne (t u : T) : cmpR .NotEq t u = (eqT t u).map (!·) := (rfl)
@[simp] theorem cmpR_in (t u : T) : cmpR .In t u = inT t u := (rfl)
@[simp] theorem cmpR_notin (t u : T) : cmpR .NotIn t u = (inT t u).map (!·) := (rfl)
@[simp] theorem truT_bl (b : Bool) : truT (.bl b) = some b := (rfl)
@[simp] theorem truT_int (i : Int) : truT (.int i) = some (i != 0) := (rfl)
@[simp] theorem truT_non : truT .non = some false := (rfl)
@[simp] theorem truT_lst (l : List T) : truT (.lst l) = some (!l.isEmpty) := (rfl)
@[simp] theorem truT_tup (l : List T) : truT (.tup l) = some (!l.isEmpty) := (rfl)
@[simp] theorem truT_slst (l : List T) : truT (.slst l) = some (!l.isEmpty) := (rfl)
@[simp] theorem items_lst (l : List T) : itemsT (.lst l) = some l := (rfl)
@[simp] theorem items_tup (l : List T) : itemsT (.tup l) = some l := (rfl)
@[simp] theorem items_slst (l : List T) : itemsT (.slst l) = some l := (rfl)
@[simp] theorem eqT_int (i j : Int) : eqT (.int i) (.int j) = some (decide (i = j)) := by
  simp [eqT, toD, SeqAt.shaped, PyData.canLay0, PyData.depth, PyData.eqv]
  rfl
@[simp] theorem eqT_bl (a b : Bool) : eqT (.bl a) (.bl b) = some (a == b) := by
  simp [eqT, toD, SeqAt.shaped, PyData.canLay0, PyData.depth, PyData.eqv]
@[simp] theorem eqT_bi (a : Bool) (j : Int) : eqT (.bl a) (.int j) = some (decide ((if a then 1 else 0) = j)) := by
  simp [eqT, toD, SeqAt.shaped, PyData.canLay0, PyData.depth, PyData.eqv]; rfl
@[simp] theorem eqT_nn : eqT .non .non = some true := by
  simp [eqT, toD, SeqAt.shaped, PyData.canLay0, PyData.depth, PyData.eqv]
@[simp] theorem eqT_ni (i : Int) : eqT .non (.int i) = some false := by
  simp [eqT, toD, SeqAt.shaped, PyData.canLay0, PyData.depth, PyData.eqv]
@[simp] theorem eqT_in (i : Int) : eqT (.int i) .non = some false := by
  simp [eqT, toD, SeqAt.shaped, PyData.canLay0, PyData.depth, PyData.eqv]
def setR (o : Option HOb) (n : Nat) (k : Int) (t : T) (h : Hs) : Option Hs := match o with
  | some (.lst l) => (L2.ixN l.length k).map fun j => h.set n (.lst (l.set j t))
  | _ => none
@[simp] theorem setR_lst (l : List T) (n : Nat) (k : Int) (t : T) : setR (some (.lst l)) n k t h = (L2.ixN l.length k).map fun j => h.set n (.lst (l.set j t)) := (rfl)
@[simp] theorem setL_ref (t : T) (n : Nat) (k : Int) : setL (.v t) (.v (.ref n)) (.v (.int k)) h = setR h[n]? n k t h := (rfl)
@[simp] theorem len_lst (l : List T) : bltR .len [.lst l] = some (.v (.int l.length)) := (rfl)
@[simp] theorem len_slst (l : List T) : bltR .len [.slst l] = some (.v (.int l.length)) := (rfl)
@[simp] theorem len_tup (l : List T) : bltR .len [.tup l] = some (.v (.int l.length)) := (rfl)
def absI (i : Int) : Int := if i < 0 then -i else i
@[simp] theorem abs_int (i : Int) : bltR .abs [.int i] = some (.v (.int (absI i))) := (rfl)
@[simp] theorem int_int (i : Int) : bltR .int [.int i] = some (.v (.int i)) := (rfl)
@[simp] theorem int_bl (b : Bool) : bltR .int [.bl b] = some (.v (.int (if b then 1 else 0))) := (rfl)
@[simp] theorem max_int (i j : Int) : bltR .max [.int i, .int j] = some (.v (.int (if j > i then j else i))) := (rfl)
@[simp] theorem min_int (i j : Int) : bltR .min [.int i, .int j] = some (.v (.int (if j < i then j else i))) := (rfl)
@[simp] theorem tuple_lst (l : List T) : bltR .tuple [.lst l] = some (.v (.tup l)) := (rfl)
@[simp] theorem list_lst (l : List T) : bltR .list [.lst l] = some (.al l) := (rfl)
@[simp] theorem pow_10_9 : opR .Pow (.int 10) (.int 9) = some (.v (.int 1000000000)) := by rw [opR_pow (by decide) (by decide)]; rfl
@[simp] theorem pow_10_18 : opR .Pow (.int 10) (.int 18) = some (.v (.int 1000000000000000000)) := by rw [opR_pow (by decide) (by decide)]; rfl
end
theorem runD_eq (Γ : Ctx) (d : FD) {ts : List T} (h : Hs) (e : ts.length = d.ps) : runD Γ d ts h = (evSs Γ d.body (startT d.n ts) h).out := if_pos e
theorem callK_eq {P : List FD} {gv : Nat → Option T} {k f : Nat} {d : FD} (e : P[f]? = some d) (ts : List T) (h : Hs) : callK P gv (k + 1) f ts h = runD ⟨callK P gv k, gv⟩ d ts h := by
  rw [callK, e]
theorem forL_run {body : T → Slots → Hs → SO} (Inv : Nat → Slots → Hs → Prop) : ∀ (xs : List T) (k : Nat), (∀ i x, xs[i]? = some x → ∀ σ h, Inv (k + i) σ h → ∃ σ' h', (body x σ h = .ok .nx σ' h' ∨ body x σ h = .ok .ct σ' h') ∧ Inv (k + i + 1) σ' h') →
    ∀ σ h, Inv k σ h → ∃ σ' h', forL body xs σ h = .ok .nx σ' h' ∧ Inv (k + xs.length) σ' h'
  | [], k, _, σ, h, q => ⟨σ, h, rfl, q⟩
  | x :: xs, k, step, σ, h, q => by
    obtain ⟨σ1, h1, e1, q1⟩ := step 0 x rfl σ h q
    obtain ⟨σ2, h2, e2, q2⟩ := forL_run Inv xs (k + 1) (fun i y e σ h q => by
      have := step (i + 1) y e σ h (by rw [show k + (i + 1) = k + 1 + i by omega]; exact q)
      rw [show k + (i + 1) + 1 = k + 1 + i + 1 by omega] at this
      exact this) σ1 h1 q1
    refine ⟨σ2, h2, ?_, by rw [List.length_cons, show k + (xs.length + 1) = k + 1 + xs.length by omega]; exact q2⟩
    rw [forL_cons]
    rcases e1 with e1 | e1 <;> rw [e1] <;> exact e2
theorem rng0 {j : Int} {n : Nat} (e : j = n) (hn : n < 2 ^ 62) : rngT 0 j = some ((List.range n).map fun k : Nat => .int k) := by
  subst e
  unfold rngT
  rw [if_pos (by omega)]
  simp
theorem rng_get {n i : Nat} {x : T} (e : ((List.range n).map fun k : Nat => T.int (k : Int))[i]? = some x) : x = .int (i : Int) ∧ i < n := by
  rw [List.getElem?_map] at e
  cases h : (List.range n)[i]? with
  | none => rw [h] at e; cases e
  | some j =>
    rw [h] at e
    cases e
    rw [List.getElem?_eq_some_iff] at h
    obtain ⟨h1, h2⟩ := h
    simp at h1 h2
    subst h2
    exact ⟨rfl, h1⟩
/-- range(max(lo, min(hi, len(x)))) -/
theorem it_lim (Γ : Ctx) (own : Bool) {i : Nat} {l : List T} {σ : Slots} (lo hi : Int) (h : Hs) (e : σ[i]? = some (some (.v (.slst l)))) (h0 : 0 ≤ lo) (h1 : lo ≤ hi) (h2 : hi < 2 ^ 62) :
    ∃ m : Nat, lo ≤ m ∧ (m : Int) ≤ hi ∧ evIt Γ own (.r1 (.blt .max [.c (.int lo), .blt .min [.c (.int hi), .blt .len [.var i]]])) σ h = .ok ((List.range m).map fun k : Nat => .int k) h := by
  obtain ⟨a, ha, ea⟩ : ∃ a : Nat, (a : Int) ≤ hi ∧ (if (l.length : Int) < hi then (l.length : Int) else hi) = (a : Int) := by
    by_cases c : (l.length : Int) < hi
    · exact ⟨l.length, by omega, if_pos c⟩
    · exact ⟨hi.toNat, by omega, by rw [if_neg c]; omega⟩
  obtain ⟨m, hm, hm2, em⟩ : ∃ m : Nat, lo ≤ m ∧ (m : Int) ≤ hi ∧ (if lo < (a : Int) then (a : Int) else lo) = (m : Int) := by
    by_cases c : lo < a
    · exact ⟨a, by omega, ha, if_pos c⟩
    · exact ⟨lo.toNat, by omega, by omega, by rw [if_neg c]; omega⟩
  refine ⟨m, hm, hm2, ?_⟩
  simp [e, ea, em, rng0 (rfl : (m : Int) = m) (by omega)]
end VY
namespace VY
open PySem
def takeB1 : List S := [.ife (.t (.cmp .Gt (.ix (.var 0) (.c (.int 0))) (.c (.int 0)))) [.asg 6 (.bin .Mod (.ix (.var 0) (.c (.int 0))) (.var 1)), .setIx (.var 0) (.c (.int 0)) (.bin .FloorDiv (.ix (.var 0) (.c (.int 0))) (.var 1)), .ret (.var 6)] [], .asg 2 (.tup [.c (.int 2147483647), .c (.int 2147483629), .c (.int 2147483587), .c (.int 2147483579), .c (.int 2147483563), .c (.int 2147483549), .c (.int 2147483543), .c (.int 2147483497)]), .setIx (.var 0) (.c (.int 2)) (.bin .Add (.ix (.var 0) (.c (.int 2))) (.c (.int 1))), .asg 3 (.ix (.var 0) (.c (.int 2))), .asg 4 (.bin .Add (.bin .Add (.bin .Mult (.ix (.var 0) (.c (.int 1))) (.bin .Add (.bin .Mult (.c (.int 2)) (.var 3)) (.c (.int 1)))) (.bin .Mult (.bin .Mult (.c (.int 6121)) (.var 3)) (.var 3))) (.c (.int 37))), .asg 5 (.bin .Mod (.bin .Pow (.var 4) (.c (.int 3))) (.ix (.var 2) (.bin .Mod (.var 3) (.c (.int 8))))), .ret (.bin .Mod (.bin .FloorDiv (.bin .Mod (.bin .Mult (.var 5) (.bin .Add (.bin .FloorDiv (.var 5) (.c (.int 4093))) (.var 3))) (.ix (.var 2) (.bin .Mod (.bin .Add (.var 3) (.c (.int 3))) (.c (.int 8))))) (.c (.int 16))) (.var 1))]
theorem take1_pos (Γ : Ctx) {n : Nat} {g b c many : Int} {h : Hs} (e : h[n]? = some (.lst [.int g, .int b, .int c])) (hm : 0 < many) (hl : many.natAbs.log2 < 9000) (hg : 0 < g) :
    runD Γ ⟨2, 7, takeB1⟩ [.ref n, .int many] h = .ok (.v (.int (g % many))) (h.set n (.lst [.int (g / many), .int b, .int c])) := by
  have hn : n < h.length := (List.getElem?_eq_some_iff.mp e).1
  rw [runD_eq _ _ _ rfl]
  simp [takeB1, startT, e, L2.atI, L2.ixN, CT.t, hg, opR_mod hm, opR_div hm hl]
theorem bits_le {i : Int} {n : Nat} (h : i.natAbs < 2 ^ n) : Builtin.Int.intBits i ≤ n := by
  unfold Builtin.Int.intBits
  split
  · exact Nat.zero_le _
  · rename_i c
    have hz : i.natAbs ≠ 0 := fun z => c (by simpa using z)
    exact (Nat.log2_lt hz).mpr h
def primes1 : List T := [.int 2147483647, .int 2147483629, .int 2147483587, .int 2147483579, .int 2147483563, .int 2147483549, .int 2147483543, .int 2147483497]
def prm1 (x : Int) : Int := if x % 8 = 0 then 2147483647 else if x % 8 = 1 then 2147483629 else if x % 8 = 2 then 2147483587 else if x % 8 = 3 then 2147483579 else if x % 8 = 4 then 2147483563 else if x % 8 = 5 then 2147483549 else if x % 8 = 6 then 2147483543 else 2147483497
theorem prm1_at (x : Int) : L2.atI primes1 (x % 8) = some (.int (prm1 x)) := by
  have h1 : 0 ≤ x % 8 := Int.emod_nonneg _ (by decide)
  have h2 : x % 8 < 8 := Int.emod_lt_of_pos _ (by decide)
  unfold prm1
  generalize x % 8 = y at h1 h2
  have : y = 0 ∨ y = 1 ∨ y = 2 ∨ y = 3 ∨ y = 4 ∨ y = 5 ∨ y = 6 ∨ y = 7 := by omega
  rcases this with rfl | rfl | rfl | rfl | rfl | rfl | rfl | rfl <;> rfl
theorem prm1_pos (x : Int) : 0 < prm1 x ∧ prm1 x < 2 ^ 31 := by
  unfold prm1
  repeat' split
  all_goals decide
def found1 (b c : Int) : Int := (b * (2 * (c + 1) + 1) + 6121 * (c + 1) * (c + 1) + 37) ^ 3 % prm1 (c + 1)
def mixed1 (b c : Int) : Int := found1 b c * (found1 b c / 4093 + (c + 1)) % prm1 (c + 1 + 3) / 16
theorem take1_mix (Γ : Ctx) {n : Nat} {g b c many : Int} {h : Hs} (e : h[n]? = some (.lst [.int g, .int b, .int c])) (hm : 0 < many) (hg : ¬ 0 < g) (hb : 0 ≤ b) (hb2 : b < 2 ^ 63) (hc : 0 ≤ c) (hc2 : c < 2 ^ 20) :
    runD Γ ⟨2, 7, takeB1⟩ [.ref n, .int many] h = .ok (.v (.int (mixed1 b c % many))) (h.set n (.lst [.int g, .int b, .int (c + 1)])) := by
  have hn : n < h.length := (List.getElem?_eq_some_iff.mp e).1
  have p1 := prm1_pos (c + 1)
  have p2 := prm1_pos (c + 1 + 3)
  have f1 : 0 ≤ found1 b c := Int.emod_nonneg _ (by omega)
  have f2 : found1 b c < 2 ^ 31 := Int.lt_trans (Int.emod_lt_of_pos _ p1.1) p1.2
  have m1 : opR .Mult (.int b) (.int (2 * (c + 1) + 1)) = some (.v (.int (b * (2 * (c + 1) + 1)))) := opR_mul (mulOk_l (by omega) (by omega))
  have m2 : opR .Mult (.int 2) (.int (c + 1)) = some (.v (.int (2 * (c + 1)))) := opR_mul (mulOk_l (by decide) (by decide))
  have m3 : opR .Mult (.int 6121) (.int (c + 1)) = some (.v (.int (6121 * (c + 1)))) := opR_mul (mulOk_l (by decide) (by decide))
  have m4 : opR .Mult (.int (6121 * (c + 1))) (.int (c + 1)) = some (.v (.int (6121 * (c + 1) * (c + 1)))) := opR_mul (mulOk_r (by omega) (by omega))
  have bb : (b * (2 * (c + 1) + 1) + 6121 * (c + 1) * (c + 1) + 37).natAbs < 2 ^ 100 := by
    have q1 : b * (2 * (c + 1) + 1) ≤ 2 ^ 63 * 2 ^ 22 := Int.mul_le_mul (by omega) (by omega) (by omega) (by decide)
    have q2 : 6121 * (c + 1) * (c + 1) ≤ 6121 * 2 ^ 21 * 2 ^ 21 := Int.mul_le_mul (by omega) (by omega) (by omega) (by decide)
    have q3 : 0 ≤ b * (2 * (c + 1) + 1) := Int.mul_nonneg hb (by omega)
    have q4 : 0 ≤ 6121 * (c + 1) * (c + 1) := Int.mul_nonneg (by omega) (by omega)
    omega
  have pw : opR .Pow (.int (b * (2 * (c + 1) + 1) + 6121 * (c + 1) * (c + 1) + 37)) (.int 3) = some (.v (.int ((b * (2 * (c + 1) + 1) + 6121 * (c + 1) * (c + 1) + 37) ^ 3))) := opR_pow (by decide) (by have := bits_le bb; omega)
  have mm1 : opR .Mod (.int ((b * (2 * (c + 1) + 1) + 6121 * (c + 1) * (c + 1) + 37) ^ 3)) (.int (prm1 (c + 1))) = some (.v (.int (found1 b c))) := opR_mod p1.1
  have md : opR .FloorDiv (.int (found1 b c)) (.int 4093) = some (.v (.int (found1 b c / 4093))) := opR_div (by decide) (by decide)
  have m5 : opR .Mult (.int (found1 b c)) (.int (found1 b c / 4093 + (c + 1))) = some (.v (.int (found1 b c * (found1 b c / 4093 + (c + 1))))) := opR_mul (mulOk_l (by omega) (by omega))
  have mm2 : opR .Mod (.int (found1 b c * (found1 b c / 4093 + (c + 1)))) (.int (prm1 (c + 1 + 3))) = some (.v (.int (found1 b c * (found1 b c / 4093 + (c + 1)) % prm1 (c + 1 + 3)))) := opR_mod p2.1
  have md2 : opR .FloorDiv (.int (found1 b c * (found1 b c / 4093 + (c + 1)) % prm1 (c + 1 + 3))) (.int 16) = some (.v (.int (mixed1 b c))) := opR_div (by decide) (by decide)
  have a1 : L2.atI primes1 ((c + 1) % 8) = some (.int (prm1 (c + 1))) := prm1_at _
  have a2 : L2.atI primes1 ((c + 1 + 3) % 8) = some (.int (prm1 (c + 1 + 3))) := prm1_at _
  have i0 : L2.atI [T.int g, T.int b, T.int c] 0 = some (.int g) := rfl
  have i2 : L2.atI [T.int g, T.int b, T.int c] 2 = some (.int c) := rfl
  have i2' : L2.atI [T.int g, T.int b, T.int (c + 1)] 2 = some (.int (c + 1)) := rfl
  have i1' : L2.atI [T.int g, T.int b, T.int (c + 1)] 1 = some (.int b) := rfl
  have ix : L2.ixN 3 2 = some 2 := rfl
  have m8 : ∀ i : Int, opR .Mod (.int i) (.int 8) = some (.v (.int (i % 8))) := fun i => opR_mod (by decide)
  have mf : opR .Mod (.int (mixed1 b c)) (.int many) = some (.v (.int (mixed1 b c % many))) := opR_mod hm
  have pr : ([.int 2147483647, .int 2147483629, .int 2147483587, .int 2147483579, .int 2147483563, .int 2147483549, .int 2147483543, .int 2147483497] : List T) = primes1 := rfl
  rw [runD_eq _ _ _ rfl]
  have hs : ∀ x, (h.set n x)[n]? = some x := fun x => List.getElem?_set_self hn
  have pl : primes1.length ≤ SL := by decide
  simp [takeB1, startT, e, CT.t, hg, hs, pl, i0, i2, i2', i1', ix, pr, a1, a2, m1, m2, m3, m4, pw, mm1, md, m5, mm2, md2, m8, mf]
/-- a bag of the first sort: k draws at most -/
structure Bag1 (h : Hs) (n k : Nat) : Prop where
  ex : ∃ g b c : Int, h[n]? = some (.lst [.int g, .int b, .int c]) ∧ 0 ≤ b ∧ b < 2 ^ 63 ∧ 0 ≤ c ∧ c ≤ k
/-- nothing but the n-th object has changed -/
structure Only1 (h h' : Hs) (n : Nat) : Prop where
  len : h'.length = h.length
  same : ∀ m, m ≠ n → h'[m]? = h[m]?
theorem Only1.set {h : Hs} {n : Nat} {o : HOb} : Only1 h (h.set n o) n := ⟨List.length_set .., fun m hm => List.getElem?_set_ne (Ne.symm hm)⟩
theorem Only1.refl {h : Hs} {n : Nat} : Only1 h h n := ⟨rfl, fun _ _ => rfl⟩
theorem Only1.trans {h h' h'' : Hs} {n : Nat} (a : Only1 h h' n) (b : Only1 h' h'' n) : Only1 h h'' n := ⟨b.len.trans a.len, fun m hm => (b.same m hm).trans (a.same m hm)⟩
theorem Bag1.le {h : Hs} {n k k' : Nat} (b : Bag1 h n k) (e : k ≤ k') : Bag1 h n k' := by
  obtain ⟨g, b, c, e1, e2, e3, e4, e5⟩ := b
  exact ⟨g, b, c, e1, e2, e3, e4, by omega⟩
theorem take1 (Γ : Ctx) {n k : Nat} {many : Int} {h : Hs} (bg : Bag1 h n k) (hm : 0 < many) (hl : many.natAbs.log2 < 9000) (hk : k < 2 ^ 20) :
    ∃ d h', runD Γ ⟨2, 7, takeB1⟩ [.ref n, .int many] h = .ok (.v (.int d)) h' ∧ 0 ≤ d ∧ d < many ∧ Bag1 h' n (k + 1) ∧ Only1 h h' n := by
  obtain ⟨g, b, c, e, hb, hb2, hc, hc2⟩ := bg
  have hn : n < h.length := (List.getElem?_eq_some_iff.mp e).1
  by_cases hg : 0 < g
  · exact ⟨_, _, take1_pos Γ e hm hl hg, Int.emod_nonneg _ (by omega), Int.emod_lt_of_pos _ hm, ⟨_, _, _, List.getElem?_set_self hn, hb, hb2, hc, by omega⟩, Only1.set⟩
  · exact ⟨_, _, take1_mix Γ e hm hg hb hb2 hc (by omega), Int.emod_nonneg _ (by omega), Int.emod_lt_of_pos _ hm, ⟨_, _, _, List.getElem?_set_self hn, hb, hb2, by omega, by omega⟩, Only1.set⟩
def bagT1 : List S := [.asg 3 (.bin .Mult (.blt .abs [.var 2]) (.blt .int [.cmp .GtE (.blt .abs [.var 2]) (.bin .Pow (.c (.int 10)) (.c (.int 18)))])), .ret (.lst [.var 3, .bin .Add (.bin .Add (.bin .Add (.bin .Mod (.var 2) (.bin .Add (.bin .Pow (.c (.int 10)) (.c (.int 18))) (.c (.int 9)))) (.bin .Mult (.bin .Mult (.c (.int 50021)) (.var 1)) (.var 1))) (.bin .Mult (.c (.int 7013)) (.var 1))) (.c (.int 19)), .c (.int 0)])]
def bagB1 : List S := .asg 2 (.c (.int 0)) :: .ife (.t (.cmp .Lt (.var 1) (.blt .len [.var 0]))) [.asg 2 (.ix (.var 0) (.var 1))] [] :: bagT1
theorem bag1_great (Γ : Ctx) (cell : Int) (a b x : Option Sl) (h : Hs) : ∃ g : Int, evE Γ (.bin .Mult (.blt .abs [.var 2]) (.blt .int [.cmp .GtE (.blt .abs [.var 2]) (.bin .Pow (.c (.int 10)) (.c (.int 18)))])) [a, b, some (.v (.int cell)), x] h = .ok (.v (.int g)) h := by
  simp
  generalize hz : (if 1000000000000000000 ≤ absI cell then (1 : Int) else 0) = z
  have hz2 : z = 0 ∨ z = 1 := by
    split at hz
    · exact .inr hz.symm
    · exact .inl hz.symm
  refine ⟨absI cell * z, ?_⟩
  rw [opR_mul (by rcases hz2 with rfl | rfl <;> exact mulOk_r (by decide) (by decide))]
  rfl
theorem bag1_tail (Γ : Ctx) {i : Nat} {h : Hs} (cell : Int) (a x : Option Sl) (hi : i ≤ 1000) :
    ∃ g b, (evSs Γ bagT1 [a, some (.v (.int i)), some (.v (.int cell)), x] h).out = .ok (.al [.int g, .int b, .int 0]) h ∧ 0 ≤ b ∧ b < 2 ^ 63 := by
  have md : opR .Mod (.int cell) (.int 1000000000000000009) = some (.v (.int (cell % 1000000000000000009))) := opR_mod (by decide)
  have m1 : opR .Mult (.int 50021) (.int i) = some (.v (.int (50021 * i))) := opR_mul (mulOk_l (by decide) (by decide))
  have m2 : opR .Mult (.int (50021 * i)) (.int i) = some (.v (.int (50021 * i * i))) := opR_mul (mulOk_r (by omega) (by omega))
  have m3 : opR .Mult (.int 7013) (.int i) = some (.v (.int (7013 * i))) := opR_mul (mulOk_l (by decide) (by decide))
  have q1 : 0 ≤ cell % 1000000000000000009 := Int.emod_nonneg _ (by decide)
  have q2 : cell % 1000000000000000009 < 1000000000000000009 := Int.emod_lt_of_pos _ (by decide)
  have q3 : (50021 * (i : Int) * i) ≤ 50021 * 1000 * 1000 := Int.mul_le_mul (by omega) (by omega) (by omega) (by decide)
  have q4 : 0 ≤ (50021 * (i : Int) * i) := Int.mul_nonneg (by omega) (by omega)
  obtain ⟨g, hg⟩ := bag1_great Γ cell a (some (.v (.int i))) x h
  refine ⟨g, cell % 1000000000000000009 + 50021 * i * i + 7013 * i + 19, ?_, by omega, by omega⟩
  have sl : (3 : Nat) ≤ SL := by decide
  unfold bagT1
  rw [evSs_cons, evS_asg, hg]
  simp [md, m1, m2, m3, sl]
theorem atI_nat {α : Type} {l : List α} {i : Nat} (h : i < l.length) : L2.atI l (i : Int) = some l[i] := by
  unfold L2.atI L2.ixN
  rw [if_pos (by omega), if_pos (by omega)]
  simp
theorem bag1 (Γ : Ctx) (ns : List Int) {i : Nat} (h : Hs) (hi : i ≤ 1000) : ∃ g b, runD Γ ⟨2, 4, bagB1⟩ [.slst (ns.map .int), .int i] h = .ok (.al [.int g, .int b, .int 0]) h ∧ 0 ≤ b ∧ b < 2 ^ 63 := by
  rw [runD_eq _ _ _ rfl]
  by_cases hc : i < ns.length
  · obtain ⟨g, b, e, q⟩ := bag1_tail Γ (i := i) (h := h) ns[i] (some (.v (.slst (ns.map .int)))) none hi
    refine ⟨g, b, ?_, q⟩
    rw [← e]
    have at_ : L2.atI (ns.map T.int) (i : Int) = some (.int ns[i]) := by rw [atI_nat (by simpa using hc)]; simp
    have lt : (i : Int) < ns.length := by omega
    unfold bagB1
    simp [startT, hc, at_]
  · obtain ⟨g, b, e, q⟩ := bag1_tail Γ (i := i) (h := h) 0 (some (.v (.slst (ns.map .int)))) none hi
    refine ⟨g, b, ?_, q⟩
    rw [← e]
    unfold bagB1
    simp [startT, hc]
end VY
namespace K01
open VY PySem L2
abbrev rowb : List Stmt := PySem.Challenge.pw_oweback_k01_letters_known.main.body
def st (i : Nat) : Stmt := rowb.getD i (.Pass ⟨0, 0, 0, 0⟩)
/-- is_whole(thing): 0 thing -/
def b0 : List S := [.ret (.bop .And [.blt .isinstance [.var 0, .gl 0], .not (.blt .isinstance [.var 0, .gl 1])])]
def f0 : FD := ⟨1, 1, b0⟩
def F0 : FnD := ⟨⟨("is_whole", none), "is_whole", "is_whole", L2.defArgs (st 5), L2.defBody (st 5), L2.defScope (st 5), [], []⟩, ["thing"], ["thing"], f0, fun _ _ _ _ _ _ us hl => match us, hl with | [_], _ => rfl⟩
/-- is_letter(thing): 0 thing -/
def b1 : List S := [.ret (.bop .Or [.cmp .Is (.var 0) (.c .non), .bop .And [.call 0 [.var 0], .ch .LtE .LtE (.neg (.gl 2)) (.var 0) (.gl 2)]])]
def f1 : FD := ⟨1, 1, b1⟩
def F1 : FnD := ⟨⟨("is_letter", none), "is_letter", "is_letter", L2.defArgs (st 6), L2.defBody (st 6), L2.defScope (st 6), [], []⟩, ["thing"], ["thing"], f1, fun _ _ _ _ _ _ us hl => match us, hl with | [_], _ => rfl⟩
/-- takes(word, many): 0 word, 1 many -/
def b2 : List S := [.ife (.t (.cmp .In (.var 0) (.gl 3))) [.ret (.cmp .Eq (.var 1) (.c (.int 2)))] [], .ret (.bop .And [.cmp .In (.var 0) (.gl 4), .ch .LtE .LtE (.c (.int 1)) (.var 1) (.gl 5)])]
def f2 : FD := ⟨2, 2, b2⟩
def F2 : FnD := ⟨⟨("takes", none), "takes", "takes", L2.defArgs (st 7), L2.defBody (st 7), L2.defScope (st 7), [], []⟩, ["word", "many"], ["word", "many"], f2, fun _ _ _ _ _ _ us hl => match us, hl with | [_, _], _ => rfl⟩
/-- _law_bag(_law_script, _law_at): 0 _law_script, 1 _law_at, 2 _law_cell, 3 _law_great -/
def b3 : List S := [.asg 2 (.c (.int 0)), .ife (.t (.cmp .Lt (.var 1) (.blt .len [.var 0]))) [.asg 2 (.ix (.var 0) (.var 1))] [], .asg 3 (.bin .Mult (.blt .abs [.var 2]) (.blt .int [.cmp .GtE (.blt .abs [.var 2]) (.bin .Pow (.c (.int 10)) (.c (.int 18)))])), .ret (.lst [.var 3, .bin .Add (.bin .Add (.bin .Add (.bin .Mod (.var 2) (.bin .Add (.bin .Pow (.c (.int 10)) (.c (.int 18))) (.c (.int 9)))) (.bin .Mult (.bin .Mult (.c (.int 50021)) (.var 1)) (.var 1))) (.bin .Mult (.c (.int 7013)) (.var 1))) (.c (.int 19)), .c (.int 0)])]
def f3 : FD := ⟨2, 4, b3⟩
def F3 : FnD := ⟨⟨("_law_bag", none), "_law_bag", "_law_bag", L2.defArgs (st 9), L2.defBody (st 9), L2.defScope (st 9), [], []⟩, ["_law_script", "_law_at", "_law_cell", "_law_great"], ["_law_script", "_law_at"], f3, fun _ _ _ _ _ _ us hl => match us, hl with | [_, _], _ => rfl⟩
/-- _law_take(_law_bag_here, _law_many): 0 _law_bag_here, 1 _law_many, 2 _law_primes, 3 _law_step, 4 _law_base, 5 _law_found, 6 _law_digit -/
def b4 : List S := [.ife (.t (.cmp .Gt (.ix (.var 0) (.c (.int 0))) (.c (.int 0)))) [.asg 6 (.bin .Mod (.ix (.var 0) (.c (.int 0))) (.var 1)), .setIx (.var 0) (.c (.int 0)) (.bin .FloorDiv (.ix (.var 0) (.c (.int 0))) (.var 1)), .ret (.var 6)] [], .asg 2 (.tup [.c (.int 2147483647), .c (.int 2147483629), .c (.int 2147483587), .c (.int 2147483579), .c (.int 2147483563), .c (.int 2147483549), .c (.int 2147483543), .c (.int 2147483497)]), .setIx (.var 0) (.c (.int 2)) (.bin .Add (.ix (.var 0) (.c (.int 2))) (.c (.int 1))), .asg 3 (.ix (.var 0) (.c (.int 2))), .asg 4 (.bin .Add (.bin .Add (.bin .Mult (.ix (.var 0) (.c (.int 1))) (.bin .Add (.bin .Mult (.c (.int 2)) (.var 3)) (.c (.int 1)))) (.bin .Mult (.bin .Mult (.c (.int 6121)) (.var 3)) (.var 3))) (.c (.int 37))), .asg 5 (.bin .Mod (.bin .Pow (.var 4) (.c (.int 3))) (.ix (.var 2) (.bin .Mod (.var 3) (.c (.int 8))))), .ret (.bin .Mod (.bin .FloorDiv (.bin .Mod (.bin .Mult (.var 5) (.bin .Add (.bin .FloorDiv (.var 5) (.c (.int 4093))) (.var 3))) (.ix (.var 2) (.bin .Mod (.bin .Add (.var 3) (.c (.int 3))) (.c (.int 8))))) (.c (.int 16))) (.var 1))]
def f4 : FD := ⟨2, 7, b4⟩
def F4 : FnD := ⟨⟨("_law_take", none), "_law_take", "_law_take", L2.defArgs (st 10), L2.defBody (st 10), L2.defScope (st 10), [], []⟩, ["_law_bag_here", "_law_many", "_law_primes", "_law_step", "_law_base", "_law_found", "_law_digit"], ["_law_bag_here", "_law_many"], f4, fun _ _ _ _ _ _ us hl => match us, hl with | [_, _], _ => rfl⟩
/-- _law_whole(_law_thing_here): 0 _law_thing_here -/
def b5 : List S := [.ret (.bop .And [.blt .isinstance [.var 0, .gl 0], .not (.blt .isinstance [.var 0, .gl 1])])]
def f5 : FD := ⟨1, 1, b5⟩
def F5 : FnD := ⟨⟨("_law_whole", none), "_law_whole", "_law_whole", L2.defArgs (st 11), L2.defBody (st 11), L2.defScope (st 11), [], []⟩, ["_law_thing_here"], ["_law_thing_here"], f5, fun _ _ _ _ _ _ us hl => match us, hl with | [_], _ => rfl⟩
/-- _law_is_letter(_law_thing_here): 0 _law_thing_here -/
def b6 : List S := [.ret (.bop .Or [.cmp .Is (.var 0) (.c .non), .bop .And [.call 5 [.var 0], .ch .LtE .LtE (.neg (.bin .Pow (.c (.int 10)) (.c (.int 9)))) (.var 0) (.bin .Pow (.c (.int 10)) (.c (.int 9)))]])]
def f6 : FD := ⟨1, 1, b6⟩
def F6 : FnD := ⟨⟨("_law_is_letter", none), "_law_is_letter", "_law_is_letter", L2.defArgs (st 12), L2.defBody (st 12), L2.defScope (st 12), [], []⟩, ["_law_thing_here"], ["_law_thing_here"], f6, fun _ _ _ _ _ _ us hl => match us, hl with | [_], _ => rfl⟩
/-- _law_words():  -/
def b7 : List S := [.ret (.lst [.c (.str "plus"), .c (.str "times"), .c (.str "least"), .c (.str "most"), .c (.str "same"), .c (.str "less"), .c (.str "over"), .c (.str "rest"), .c (.str "below")])]
def f7 : FD := ⟨0, 0, b7⟩
def F7 : FnD := ⟨⟨("_law_words", none), "_law_words", "_law_words", L2.defArgs (st 13), L2.defBody (st 13), L2.defScope (st 13), [], []⟩, [], [], f7, fun _ _ _ _ _ _ us hl => match us, hl with | [], _ => rfl⟩
/-- _law_takes(_law_word, _law_many): 0 _law_word, 1 _law_many -/
def b8 : List S := [.ret (.ife (.t (.cmp .In (.var 0) (.sl (.call 7 []) (.at (.c (.int 5))) .no))) (.cmp .Eq (.var 1) (.c (.int 2))) (.ch .Lt .Lt (.c (.int 0)) (.var 1) (.c (.int 7))))]
def f8 : FD := ⟨2, 2, b8⟩
def F8 : FnD := ⟨⟨("_law_takes", none), "_law_takes", "_law_takes", L2.defArgs (st 14), L2.defBody (st 14), L2.defScope (st 14), [], []⟩, ["_law_word", "_law_many"], ["_law_word", "_law_many"], f8, fun _ _ _ _ _ _ us hl => match us, hl with | [_, _], _ => rfl⟩
/-- _law_thing(_law_bag_here): 0 _law_bag_here, 1 _law_how, 2 _law_number -/
def b9 : List S := [.asg 1 (.call 4 [.var 0, .c (.int 8)]), .ife (.t (.cmp .Lt (.var 1) (.c (.int 3)))) [.ret (.bin .Mult (.bin .Sub (.bin .Add (.bin .Pow (.c (.int 10)) (.c (.int 9))) (.call 4 [.var 0, .c (.int 5)])) (.c (.int 2))) (.ix (.lst [.c (.int 1), .neg (.c (.int 1))]) (.call 4 [.var 0, .c (.int 2)])))] [], .ife (.t (.cmp .Eq (.var 1) (.c (.int 3)))) [.ret (.bin .Sub (.call 4 [.var 0, .c (.int 2001)]) (.c (.int 1000)))] [], .ife (.t (.cmp .Eq (.var 1) (.c (.int 4)))) [.ret (.bin .Mult (.call 4 [.var 0, .bin .Pow (.c (.int 10)) (.c (.int 59))]) (.ix (.lst [.c (.int 1), .neg (.c (.int 1))]) (.call 4 [.var 0, .c (.int 2)])))] [], .asg 2 (.call 4 [.var 0, .c (.int 3)]), .ret (.ix (.lst [.c .non, .c (.bl true), .c (.bl false), .blt .str [.var 2], .tup [.var 2], .lst [.var 2], .c (.str ""), .tup [], .lst [.c .non], .c (.str "!"), .c .non]) (.call 4 [.var 0, .c (.int 11)]))]
def f9 : FD := ⟨1, 3, b9⟩
def F9 : FnD := ⟨⟨("_law_thing", none), "_law_thing", "_law_thing", L2.defArgs (st 15), L2.defBody (st 15), L2.defScope (st 15), [], []⟩, ["_law_bag_here", "_law_how", "_law_number"], ["_law_bag_here"], f9, fun _ _ _ _ _ _ us hl => match us, hl with | [_], _ => rfl⟩
/-- law(_law_script): 0 _law_script, 1 _law_at, 2 _law_bag_here, 3 _law_turn, 4 _law_many, 5 _law_word, 6 _law_thing_here, 7 _law_told -/
def b10 : List S := [.for (.nm 1) (.r1 (.blt .max [.c (.int 4), .blt .min [.c (.int 12), .blt .len [.var 0]]])) [.asg 2 (.call 3 [.var 0, .var 1]), .pr 2, .for (.nm 3) (.r1 (.c (.int 4))) [.asg 6 (.call 9 [.var 2]), .asg 7 (.call 1 [.var 6]), .ife (.bop .Or [.not (.t (.blt .isinstance [.var 7, .gl 1])), .t (.cmp .NotEq (.var 7) (.call 6 [.var 6]))]) [.ret (.c (.bl false))] []], .asg 4 (.call 4 [.var 2, .c (.int 10)]), .for (.nm 5) (.e (.call 7 [])) [.asg 7 (.call 2 [.var 5, .var 4]), .ife (.bop .Or [.not (.t (.blt .isinstance [.var 7, .gl 1])), .t (.cmp .NotEq (.var 7) (.call 8 [.var 5, .var 4]))]) [.ret (.c (.bl false))] []]], .ret (.bop .And [.cmp .Eq (.gl 2) (.bin .Pow (.c (.int 10)) (.c (.int 9))), .cmp .Eq (.gl 4) (.blt .tuple [.call 7 []])])]
def f10 : FD := ⟨1, 8, b10⟩
def F10 : FnD := ⟨⟨("law", none), "law", "law", L2.defArgs (st 16), L2.defBody (st 16), L2.defScope (st 16), [], []⟩, ["_law_script", "_law_at", "_law_bag_here", "_law_turn", "_law_many", "_law_word", "_law_thing_here", "_law_told"], ["_law_script"], f10, fun _ _ _ _ _ _ us hl => match us, hl with | [_], _ => rfl⟩
def F : List FnD := [F0, F1, F2, F3, F4, F5, F6, F7, F8, F9, F10]
def gs : Gvs := [("int", .ty "int"), ("bool", .ty "bool"), ("LIMIT", .int 1000000000), ("PAIRS", .tup [.str "less", .str "over", .str "rest", .str "below"]), ("WORDS", .tup [.str "plus", .str "times", .str "least", .str "most", .str "same", .str "less", .str "over", .str "rest", .str "below"]), ("MOST_TAKEN", .int 6)]
-- law: def 10, statement 16 of 17; names: ['__name__', 'LIMIT', 'WORDS', 'PAIRS', 'MOST_TAKEN', 'is_whole', 'is_letter', 'takes', '_law_bag', '_law_take', '_law_whole', '_law_is_letter', '_law_words', '_law_takes', '_law_thing']
def names : List PySem.Str := (["__name__", "LIMIT", "WORDS", "PAIRS", "MOST_TAKEN", "is_whole", "is_letter", "takes", "_law_bag", "_law_take", "_law_whole", "_law_is_letter", "_law_words", "_law_takes", "_law_thing"] : List PySem.Str)
abbrev Rw : PySem.W.OpenRow := PySem.W.OpenLaw.row PySem.Challenge.rw_oweback_k01_letters_known
abbrev hk : PySem.W.Hook := vyHook 4 F gs
abbrev VwP : PySem.Program := PySem.W.view Rw.prog [16]
def ob (s : PySem.W.SharedT) : He.AlX := He.obsX 4 (faOf F) (F.map (·.d)) [] [] (exB gs) (HandSHeadRun.getT s)
theorem ob_eq (s : PySem.W.SharedT) : ob s = hk.obs s.abs := He.obsX_eq (HandSHeadRun.getT_eq s)
theorem okA : okAll F gs = true := by decide +kernel
theorem tyA : tyB gs = true := by decide +kernel
theorem run (w : World) : HandSHeadRun.RunEq Rw VwP hk ob 4000 names w := by
  intro os
  kernel_rfl
end K01
namespace K01
open VY PySem L2
abbrev KK : Nat := 4
abbrev Ck (k : Nat) := callK (tds F) (gvOf gs) k
section
variable (k : Nat) (h : Hs)
theorem g0 : gvOf gs 0 = some (.ty "int") := (rfl)
theorem g1 : gvOf gs 1 = some (.ty "bool") := (rfl)
theorem g2 : gvOf gs 2 = some (.int 1000000000) := (rfl)
theorem g3 : gvOf gs 3 = some (.tup [.str "less", .str "over", .str "rest", .str "below"]) := (rfl)
theorem g4 : gvOf gs 4 = some (.tup [.str "plus", .str "times", .str "least", .str "most", .str "same", .str "less", .str "over", .str "rest", .str "below"]) := (rfl)
theorem g5 : gvOf gs 5 = some (.int 6) := (rfl)
/-- is_whole -/
def wholeT : T → Option Bool
  | .int _ => some true | .bl _ => some false | .non => some false | .str _ => some false | .tup _ => some false | .lst _ => some false | _ => none
theorem c_whole {t : T} {b : Bool} (e : wholeT t = some b) : Ck (k + 1) 0 [t] h = .ok (.v (.bl b)) h ∧ Ck (k + 1) 5 [t] h = .ok (.v (.bl b)) h := by
  unfold Ck
  rw [callK_eq (f := 0) (d := f0) rfl, callK_eq (f := 5) (d := f5) rfl, runD_eq _ _ _ rfl, runD_eq _ _ _ rfl]
  cases t <;> cases e
  all_goals
    constructor <;> simp [f0, f5, b0, b5, startT, g0, g1, bltR, tyN, isiS]
def letterT : T → Bool
  | .non => true
  | .int i => decide (-1000000000 ≤ i) && decide (i ≤ 1000000000)
  | _ => false
theorem c_letter {t : T} {b : Bool} (e : wholeT t = some b) : Ck (k + 2) 1 [t] h = .ok (.v (.bl (letterT t))) h ∧ Ck (k + 2) 6 [t] h = .ok (.v (.bl (letterT t))) h := by
  obtain ⟨e1, e2⟩ := c_whole k h e
  unfold Ck at e1 e2 ⊢
  rw [callK_eq (k := k + 1) (f := 1) (d := f1) rfl, callK_eq (k := k + 1) (f := 6) (d := f6) rfl, runD_eq _ _ _ rfl, runD_eq _ _ _ rfl]
  cases t <;> cases e
  case int.refl i => 
    by_cases c : (-1000000000 : Int) ≤ i <;> constructor <;> simp [f1, f6, b1, b6, startT, g2, e1, e2, letterT, c]
  all_goals
    constructor <;> simp [f1, f6, b1, b6, startT, g2, e1, e2, letterT]
theorem c_words : Ck (k + 1) 7 [] h = .ok (.al [.str "plus", .str "times", .str "least", .str "most", .str "same", .str "less", .str "over", .str "rest", .str "below"]) h := by
  unfold Ck
  rw [callK_eq (f := 7) (d := f7) rfl, runD_eq _ _ _ rfl]
  have sl : (9 : Nat) ≤ SL := by decide
  simp [f7, b7, startT, sl]
def pairsT : List T := [.str "less", .str "over", .str "rest", .str "below"]
def wordsT : List T := [.str "plus", .str "times", .str "least", .str "most", .str "same", .str "less", .str "over", .str "rest", .str "below"]
theorem takes_in {w : T} (hw : w ∈ wordsT) : ∃ p, inT w (.tup pairsT) = some p ∧ inT w (.lst pairsT) = some p ∧ inT w (.tup wordsT) = some true := by
  simp only [wordsT, List.mem_cons, List.not_mem_nil, or_false] at hw
  rcases hw with rfl | rfl | rfl | rfl | rfl | rfl | rfl | rfl | rfl
  iterate 5 exact ⟨false, by decide +kernel, by decide +kernel, by decide +kernel⟩
  iterate 4 exact ⟨true, by decide +kernel, by decide +kernel, by decide +kernel⟩
theorem c_takes {w : T} (hw : w ∈ wordsT) (m : Int) : ∃ b, Ck (k + 2) 2 [w, .int m] h = .ok (.v (.bl b)) h ∧ Ck (k + 2) 8 [w, .int m] h = .ok (.v (.bl b)) h := by
  have e1 := c_words k h
  obtain ⟨p, i1, i2, i3⟩ := takes_in hw
  unfold Ck at e1 ⊢
  rw [callK_eq (k := k + 1) (f := 2) (d := f2) rfl, callK_eq (k := k + 1) (f := 8) (d := f8) rfl, runD_eq _ _ _ rfl, runD_eq _ _ _ rfl]
  have g3' : gvOf gs 3 = some (.tup pairsT) := g3
  have g4' : gvOf gs 4 = some (.tup wordsT) := g4
  have ct : cutT [T.str "plus", T.str "times", T.str "least", T.str "most", T.str "same", T.str "less", T.str "over", T.str "rest", T.str "below"] (some 5) none = pairsT := (rfl)
  cases p with
  | true => exact ⟨decide (m = 2), by simp [f2, b2, startT, g3', i1], by simp [f8, b8, startT, e1, ct, i2]⟩
  | false =>
    refine ⟨decide (1 ≤ m) && decide (m ≤ 6), ?_, ?_⟩
    · by_cases c : (1 : Int) ≤ m <;> simp [f2, b2, startT, g3', g4', g5, i1, i3, c]
    · have e : decide (m < 7) = decide (m ≤ 6) := by rw [decide_eq_decide]; omega
      by_cases c : (1 : Int) ≤ m
      · have c' : (0 : Int) < m := by omega
        simp [f8, b8, startT, e1, ct, i2, c, c', e]
      · have c' : ¬ (0 : Int) < m := by omega
        simp [f8, b8, startT, e1, ct, i2, c, c']
theorem c_take {n k' : Nat} {many : Int} {h : Hs} (bg : Bag1 h n k') (hm : 0 < many) (hl : many.natAbs.log2 < 9000) (hk : k' < 2 ^ 20) :
    ∃ d h', Ck (k + 1) 4 [.ref n, .int many] h = .ok (.v (.int d)) h' ∧ 0 ≤ d ∧ d < many ∧ Bag1 h' n (k' + 1) ∧ Only1 h h' n := by
  unfold Ck
  rw [callK_eq (f := 4) (d := f4) rfl]
  exact take1 _ bg hm hl hk
theorem c_bag (ns : List Int) {i : Nat} (hi : i ≤ 1000) : ∃ g b, Ck (k + 1) 3 [.slst (ns.map .int), .int i] h = .ok (.al [.int g, .int b, .int 0]) h ∧ 0 ≤ b ∧ b < 2 ^ 63 := by
  unfold Ck
  rw [callK_eq (f := 3) (d := f3) rfl]
  exact bag1 _ ns h hi
theorem pow_10_59 : opR .Pow (.int 10) (.int 59) = some (.v (.int (10 ^ 59))) := by rw [opR_pow (by decide) (by decide)]; rfl
theorem sign {d : Int} (h0 : 0 ≤ d) (h1 : d < 2) : ∃ s : Int, L2.atI [T.int 1, T.int (-1)] d = some (.int s) ∧ -(2 ^ 64) < s ∧ s < 2 ^ 64 := by
  have : d = 0 ∨ d = 1 := by omega
  rcases this with rfl | rfl
  · exact ⟨1, rfl, by decide, by decide⟩
  · exact ⟨-1, rfl, by decide, by decide⟩
theorem c_thing {n k' : Nat} {h : Hs} (bg : Bag1 h n k') (hk : k' + 3 < 2 ^ 20) : ∃ t b h', Ck (k + 2) 9 [.ref n] h = .ok (.v t) h' ∧ wholeT t = some b ∧ Bag1 h' n (k' + 3) ∧ Only1 h h' n := by
  obtain ⟨d1, h1, e1, p1, q1, b1', o1⟩ := c_take k (many := 8) bg (by decide) (by decide) (by omega)
  unfold Ck at e1 ⊢
  rw [callK_eq (k := k + 1) (f := 9) (d := f9) rfl, runD_eq _ _ _ rfl]
  have s2 : (2 : Nat) ≤ SL := by decide
  by_cases c3 : d1 < 3
  · obtain ⟨d2, h2, e2, p2, q2, b2', o2⟩ := c_take k (many := 5) b1' (by decide) (by decide) (by omega)
    obtain ⟨d3, h3, e3, p3, q3, b3', o3⟩ := c_take k (many := 2) b2' (by decide) (by decide) (by omega)
    obtain ⟨s, a1, a2, a3⟩ := sign p3 q3
    have mu : opR .Mult (.int (1000000000 + d2 - 2)) (.int s) = some (.v (.int ((1000000000 + d2 - 2) * s))) := opR_mul (mulOk_r a2 a3)
    unfold Ck at e2 e3
    exact ⟨.int ((1000000000 + d2 - 2) * s), true, h3, by simp [f9, b9, startT, e1, e2, e3, c3, s2, a1, mu], rfl, b3', (o1.trans o2).trans o3⟩
  · by_cases c4 : d1 = 3
    · obtain ⟨d2, h2, e2, p2, q2, b2', o2⟩ := c_take k (many := 2001) b1' (by decide) (by decide) (by omega)
      unfold Ck at e2
      subst c4
      exact ⟨.int (d2 - 1000), true, h2, by simp [f9, b9, startT, e1, e2], rfl, b2'.le (by omega), o1.trans o2⟩
    · by_cases c5 : d1 = 4
      · obtain ⟨d2, h2, e2, p2, q2, b2', o2⟩ := c_take k (many := 10 ^ 59) b1' (by decide) (by decide) (by omega)
        obtain ⟨d3, h3, e3, p3, q3, b3', o3⟩ := c_take k (many := 2) b2' (by decide) (by decide) (by omega)
        obtain ⟨s, a1, a2, a3⟩ := sign p3 q3
        have mu : opR .Mult (.int d2) (.int s) = some (.v (.int (d2 * s))) := opR_mul (mulOk_r a2 a3)
        unfold Ck at e2 e3
        subst c5
        have pw := pow_10_59
        generalize (10 : Int) ^ 59 = big at *
        exact ⟨.int (d2 * s), true, h3, by simp [f9, b9, startT, e1, e2, e3, s2, a1, mu, pw], rfl, b3', (o1.trans o2).trans o3⟩
      · obtain ⟨d2, h2, e2, p2, q2, b2', o2⟩ := c_take k (many := 3) b1' (by decide) (by decide) (by omega)
        obtain ⟨d3, h3, e3, p3, q3, b3', o3⟩ := c_take k (many := 11) b2' (by decide) (by decide) (by omega)
        unfold Ck at e2 e3
        have sl : (11 : Nat) ≤ SL := by decide
        have sl1 : (1 : Nat) ≤ SL := by decide
        obtain ⟨z, st⟩ : ∃ z, bltR .str [.int d2] = some (.v (.str z)) := ⟨_, if_pos (by
          have : d2 = 0 ∨ d2 = 1 ∨ d2 = 2 := by omega
          rcases this with rfl | rfl | rfl <;> decide)⟩
        have all : ∃ t b, L2.atI [T.non, .bl true, .bl false, .str z, .tup [.int d2], .lst [.int d2], .str "", .tup [], .lst [.non], .str "!", .non] d3 = some t ∧ wholeT t = some b := by
          have : d3 = 0 ∨ d3 = 1 ∨ d3 = 2 ∨ d3 = 3 ∨ d3 = 4 ∨ d3 = 5 ∨ d3 = 6 ∨ d3 = 7 ∨ d3 = 8 ∨ d3 = 9 ∨ d3 = 10 := by omega
          rcases this with rfl | rfl | rfl | rfl | rfl | rfl | rfl | rfl | rfl | rfl | rfl <;> exact ⟨_, _, rfl, rfl⟩
        obtain ⟨t, b, a1, a2⟩ := all
        exact ⟨t, b, h3, by simp [f9, b9, startT, e1, e2, e3, c3, c4, c5, sl, sl1, st, a1], a2, b3', (o1.trans o2).trans o3⟩
/-- one cell -/
abbrev L8 (ns : List Int) (s1 s2 s3 s4 s5 s6 s7 : Option Sl) : Slots := [some (.v (.slst (ns.map .int))), s1, s2, s3, s4, s5, s6, s7]
def inB : List S := [.asg 6 (.call 9 [.var 2]), .asg 7 (.call 1 [.var 6]), .ife (.bop .Or [.not (.t (.blt .isinstance [.var 7, .gl 1])), .t (.cmp .NotEq (.var 7) (.call 6 [.var 6]))]) [.ret (.c (.bl false))] []]
def woB : List S := [.asg 7 (.call 2 [.var 5, .var 4]), .ife (.bop .Or [.not (.t (.blt .isinstance [.var 7, .gl 1])), .t (.cmp .NotEq (.var 7) (.call 8 [.var 5, .var 4]))]) [.ret (.c (.bl false))] []]
def ceB : List S := [.asg 2 (.call 3 [.var 0, .var 1]), .pr 2, .for (.nm 3) (.r1 (.c (.int 4))) inB, .asg 4 (.call 4 [.var 2, .c (.int 10)]), .for (.nm 5) (.e (.call 7 [])) woB]
abbrev Γ4 : VY.Ctx := ⟨Ck 3, gvOf gs⟩
theorem isi_bl (b : Bool) : bltR .isinstance [.bl b, .ty "bool"] = some (.v (.bl true)) := by cases b <;> rfl
theorem in_turn (ns : List Int) {n k' : Nat} {s1 s3 s4 s5 s6 s7 : Option Sl} {h : Hs} (bg : Bag1 h n k') (hk : k' + 3 < 2 ^ 20) :
    ∃ t7 t8 h', evSs Γ4 inB (L8 ns s1 (some (.v (.ref n))) s3 s4 s5 s6 s7) h =
      .ok .nx (L8 ns s1 (some (.v (.ref n))) s3 s4 s5 t7 t8) h' ∧ Bag1 h' n (k' + 3) := by
  obtain ⟨t, b, h1, e1, w, bg1, o1⟩ := c_thing 1 bg hk
  obtain ⟨e2, e3⟩ := c_letter 1 h1 w
  simp only [Nat.reduceAdd] at e1 e2 e3
  exact ⟨some (.v t), some (.v (.bl (letterT t))), h1, by simp [inB, e1, e2, e3, g1, isi_bl], bg1⟩
theorem word_turn (ns : List Int) (m : Int) {w : T} (hw : w ∈ wordsT) {s1 s2 s3 s6 s7 : Option Sl} {h : Hs} :
    ∃ t8, evSs Γ4 woB (L8 ns s1 s2 s3 (some (.v (.int m))) (some (.v w)) s6 s7) h =
      .ok .nx (L8 ns s1 s2 s3 (some (.v (.int m))) (some (.v w)) s6 t8) h := by
  obtain ⟨b, e2, e3⟩ := c_takes 1 h hw m
  simp only [Nat.reduceAdd] at e2 e3
  exact ⟨some (.v (.bl b)), by simp [woB, e2, e3, g1, isi_bl]⟩
theorem cell_turn (ns : List Int) (i : Nat) (hi : i ≤ 1000) {s1 s2 s3 s4 s5 s6 s7 : Option Sl} {h : Hs} :
    ∃ t1 t2 t3 t4 t5 t6 t7 h', forB Γ4 (.nm 1) ceB (.int i) (L8 ns s1 s2 s3 s4 s5 s6 s7) h =
      .ok .nx (L8 ns t1 t2 t3 t4 t5 t6 t7) h' := by
  obtain ⟨g, b, e1, b1, b2⟩ := c_bag 2 h ns hi
  simp only [Nat.reduceAdd] at e1
  have bg : Bag1 (h ++ [.lst [.int g, .int b, .int 0]]) h.length 0 := ⟨g, b, 0, by simp, b1, b2, by decide, by decide⟩
  have r4 : rngT 0 4 = some ((List.range 4).map fun k : Nat => .int k) := rng0 (by decide) (by decide)
  obtain ⟨σ1, h1, f1, k', ⟨u3, u6, u7, eq⟩, bg1, hk⟩ := forL_run (body := forB Γ4 (.nm 3) inB)
    (fun j σ h' => ∃ k', (∃ u3 u6 u7, σ = L8 ns (some (.v (.int i))) (some (.v (.ref h.length))) u3 s4 s5 u6 u7) ∧ Bag1 h' h.length k' ∧ k' ≤ 3 * j) ((List.range 4).map fun k : Nat => .int k) 0 (fun j x ex σ h' q => by
      obtain ⟨k', ⟨u3, u6, u7, rfl⟩, bg, hk⟩ := q
      obtain ⟨rfl, hj⟩ := rng_get ex
      obtain ⟨t7, t8, h2, e, bg2⟩ := in_turn ns (s1 := some (.v (.int i))) (s3 := some (.v (.int j))) (s4 := s4) (s5 := s5) (s6 := u6) (s7 := u7) bg (by omega)
      exact ⟨_, h2, .inl (by rw [forB_nm]; exact e), k' + 3, ⟨_, _, _, rfl⟩, bg2, by omega⟩) (L8 ns (some (.v (.int i))) (some (.v (.ref h.length))) s3 s4 s5 s6 s7) _ ⟨0, ⟨_, _, _, rfl⟩, bg, by omega⟩
  subst eq
  simp only [List.length_map, List.length_range] at hk
  obtain ⟨d, h2, e2, p2, q2, bg2, o2⟩ := c_take 2 (many := 10) bg1 (by decide) (by decide) (by omega)
  simp only [Nat.reduceAdd] at e2
  have e3 := c_words 2 h2
  simp only [Nat.reduceAdd] at e3
  obtain ⟨σ3, h3, f3, ⟨u5, u7', eq⟩⟩ := forL_run (body := forB Γ4 (.nm 5) woB)
    (fun j σ h' => ∃ u5 u7', σ = L8 ns (some (.v (.int i))) (some (.v (.ref h.length))) u3 (some (.v (.int d))) u5 u6 u7') wordsT 0 (fun j x ex σ h' q => by
      obtain ⟨u5, u7', rfl⟩ := q
      obtain ⟨t8, e⟩ := word_turn ns d (List.mem_of_getElem? ex) (s1 := some (.v (.int i))) (s2 := some (.v (.ref h.length))) (s3 := u3) (s6 := u6) (s7 := u7') (h := h')
      exact ⟨_, h', .inl (by rw [forB_nm]; exact e), _, _, rfl⟩) (L8 ns (some (.v (.int i))) (some (.v (.ref h.length))) u3 (some (.v (.int d))) s5 u6 u7) h2 ⟨_, _, rfl⟩
  subst eq
  refine ⟨some (.v (.int i)), some (.v (.ref h.length)), u3, some (.v (.int d)), u5, u6, u7', h3, ?_⟩
  have f3' := f3
  unfold wordsT at f3'
  rw [forB_nm]
  simp [ceB, e1, r4, f1, e2, e3, f3']
theorem fin_turn (ns : List Int) (s1 s2 s3 s4 s5 s6 s7 : Option Sl) (h : Hs) : (evSs Γ4 [.ret (.bop .And [.cmp .Eq (.gl 2) (.bin .Pow (.c (.int 10)) (.c (.int 9))), .cmp .Eq (.gl 4) (.blt .tuple [.call 7 []])])] (L8 ns s1 s2 s3 s4 s5 s6 s7) h).out = .ok (.v (.bl true)) h := by
  have e3 := c_words 2 h
  simp only [Nat.reduceAdd] at e3
  have q : eqT (.tup wordsT) (.tup wordsT) = some true := by decide +kernel
  have g4' : gvOf gs 4 = some (.tup wordsT) := g4
  unfold wordsT at q g4'
  simp [g2, g4', e3, q]
theorem hlaw : ∀ ns : List Int, ns.length ≤ 63 → ∃ h', callK (tds F) (gvOf gs) KK 10 [.slst (ns.map .int)] [] = .ok (.v (.bl true)) h' := by
  intro ns hn
  rw [callK_eq (k := 3) (f := 10) (d := f10) rfl, runD_eq _ _ _ rfl]
  obtain ⟨m, _, hm, ei⟩ := it_lim Γ4 false (i := 0) (σ := L8 ns none none none none none none none) 4 12 [] rfl (by decide) (by decide) (by decide)
  obtain ⟨σ1, h1, f1, ⟨t1, t2, t3, t4, t5, t6, t7, eq⟩⟩ := forL_run (body := forB Γ4 (.nm 1) ceB)
    (fun j σ h' => ∃ t1 t2 t3 t4 t5 t6 t7, σ = L8 ns t1 t2 t3 t4 t5 t6 t7) ((List.range m).map fun k : Nat => .int k) 0 (fun j x ex σ h' q => by
      obtain ⟨t1, t2, t3, t4, t5, t6, t7, rfl⟩ := q
      obtain ⟨rfl, hj⟩ := rng_get ex
      obtain ⟨u1, u2, u3, u4, u5, u6, u7, h2, e⟩ := cell_turn ns j (by omega) (s1 := t1) (s2 := t2) (s3 := t3) (s4 := t4) (s5 := t5) (s6 := t6) (s7 := t7) (h := h')
      exact ⟨_, h2, .inl e, _, _, _, _, _, _, _, rfl⟩) (L8 ns none none none none none none none) [] ⟨_, _, _, _, _, _, _, rfl⟩
  subst eq
  refine ⟨h1, ?_⟩
  have ft := fin_turn ns t1 t2 t3 t4 t5 t6 t7 h1
  show (evSs Γ4 [.for (.nm 1) (.r1 (.blt .max [.c (.int 4), .blt .min [.c (.int 12), .blt .len [.var 0]]])) ceB, .ret (.bop .And [.cmp .Eq (.gl 2) (.bin .Pow (.c (.int 10)) (.c (.int 9))), .cmp .Eq (.gl 4) (.blt .tuple [.call 7 []])])] (L8 ns none none none none none none none) []).out = _
  rw [evSs_cons, evS_for]
  rw [ei, sb_ok, f1, SO.seq_nx, ft]
end
end K01
namespace K01
open VY PySem L2
theorem fin {P : Program} {w : World} {h : Heap} {mg : Str → Option Value} {fa : Addr} (Y : hk.says w h) (G : h.Ns mainGlobals mg) (hm : mg ("law" : Str) = some (.ref fa)) :
    ∃ (K : PySem.W.Frag) (fd : FuncData) (sp : Sp), K.In h ∧ (∀ (s : Shared) (u : Value), BindsTo s fd ⟨[u], []⟩ [("_law_script", u)]) ∧
        (∀ (H : Hp) (a : Addr) (ns : List Int), ns.length ≤ 63 → Only H → SqL K H a (ns.map V.int) → sp [.ref a] H (fun v _ => v = .bl true) fun _ _ _ => False) ∧
        ∀ base : Heap, K.In base → base.Ns mainGlobals mg → FnOk P w K mg base (L2.CX P w) KK fa fd ["_law_script"] sp := by
  obtain ⟨K, KX, c⟩ := Y
  obtain ⟨fd, sp, h1, h2, h3⟩ := vy_law (P := P) KX G c okA tyA (li := 10) (k := KK) (most := 63) (dl := F10) (x := "_law_script") rfl rfl hm hlaw
  exact ⟨K, fd, sp, KX, h1, h2, h3⟩
end K01
open PySem PySem.W PySem.Calls PyProof.Rows
theorem PySem.Challenge.cw_oweback_k01_letters_known_holds : PySem.Challenge.rw_oweback_k01_letters_known.Holds := by
  w_on; o_law
  refine HandSHeadRun.head_any (r := K01.Rw) (q := K01.VwP) (H := K01.hk) (ob := K01.ob) (M := 4000) (loose := K01.names) (d := HandSHeadRun.topDef (K01.Rw).prog 16) (kwd := []) K01.ob_eq
    (by kernel_rfl) (fun s => by kernel_rfl) K01.run (by kernel_rfl) (by kernel_rfl) (by kernel_rfl) (by rfl) (by first | assumption | decide +kernel) (by decide +kernel) ⟨rfl, rfl, rfl, rfl, rfl, by decide +kernel⟩ ?hw ?hc
  case hw => w_witness2
  case hc =>
    refine VY.walk_vy (l := PySem.Challenge.rw_oweback_k01_letters_known) (n := 63) (k := K01.KK) (x := "_law_script") rfl (by decide) (by kernel_rfl) ⟨rfl, by decide, by decide⟩ ?F
    case F =>
      intro w mg fa h Y G hm0
      have hm : mg ("law" : PySem.Str) = some (.ref fa) := by
        have e : (HandSHeadRun.topDef (K01.Rw).prog 16).name = ("law" : PySem.Str) := by kernel_rfl
        rw [← e]
        exact hm0
      exact K01.fin Y G hm
