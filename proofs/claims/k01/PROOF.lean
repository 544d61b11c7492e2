import PyProof.Rows.All
import Wide.All
import OpenK.AllK
import Wide.FinOn
import HandS.ForMost
import HandS.Exc
import HandS.TryOnly
import HandS.ExcOwn
import HandS.ExcInit
import HandS.TryMany
import HandS.WordsExc
import HandS.Flow
import HandS.Style
import HandS.TupAny
import HandS.Deep
import HandS.IsInst
import HandS.Wide
import HandS.WideBits
import HandS.RaiseMore
import HandS.CallSlots
import HandS.Conv
import HandS.NoneIn
import HandS.Zip
import HandS.Small
import HandS.TupLe
import HandS.WideMore
import HandS.Defaults
import HandS.HeadHook2
import HandS.HeadEnd
import KE.KStateDown
import HandS.Head0
import HandS.Head1
import HandS.Head2
import HandS.HeadHook1
import PySem.Challenge.RW_latemoves_k01_numbers
set_option Elab.async false
set_option linter.all false
set_option maxRecDepth 100000
set_option maxHeartbeats 1000000
/-! MP, part a: values, the small language, its evaluator -/
namespace MP
open PySem

/-- values: tuples are plain trees; a list that nobody changes any more is `lst`; `ref` points into the small heap; `own` is a passing mark of a list that a local name owns; `scr` the script -/
inductive D where
  | non | bl (b : Bool) | int (i : Int) | str (x : Str) | tup (l : List D) | lst (l : List D) | ref (n : Nat) | own (i : Nat) | scr (l : List Int)
  deriving Inhabited
/-- what a local name holds: nothing, a value, a list that it owns -/
inductive Slot where
  | no | val (d : D) | own (l : List D)
  deriving Inhabited
abbrev Sl := List Slot
/-- the small heap's objects -/
inductive MO where
  | lst (l : List D) | ins (c : Nat) (fs : List (Nat × D)) | dic (kvs : List (L2.Key × D)) | dit (kvs : List (List L2.Key × D))
  deriving Inhabited
abbrev MH := List MO
inductive Res (α : Type) where
  | ok (a : α) (M : MH) | exc (c : Nat) (fs : List D) (M : MH) | bad
def Res.bind {α β : Type} (r : Res α) (f : α → MH → Res β) : Res β := match r with
  | .ok a M => f a M
  | .exc c fs M => .exc c fs M
  | .bad => .bad
@[simp] theorem Res.bind_ok {α β : Type} (a : α) (M : MH) (f : α → MH → Res β) : (Res.ok a M).bind f = f a M := rfl
@[simp] theorem Res.bind_exc {α β : Type} (c : Nat) (fs : List D) (M : MH) (f : α → MH → Res β) : (Res.exc c fs M : Res α).bind f = .exc c fs M := rfl
@[simp] theorem Res.bind_bad {α β : Type} (f : α → MH → Res β) : (Res.bad : Res α).bind f = .bad := rfl
/-- an option at a heap -/
def Res.opt {α : Type} (o : Option α) (M : MH) : Res α := match o with
  | some a => .ok a M
  | none => .bad
@[simp] theorem Res.opt_some {α : Type} (a : α) (M : MH) : Res.opt (some a) M = .ok a M := rfl
@[simp] theorem Res.opt_none {α : Type} (M : MH) : (Res.opt (none : Option α) M) = .bad := rfl

/-! ### data -/
mutual
def D.py : D → PyData
  | .non => .none
  | .bl b => .bool b
  | .int i => .int i
  | .str x => .str x
  | .tup l => .tuple (D.pys l)
  | .lst l => .list (D.pys l)
  | .ref _ => .dict []
  | .own _ => .dict []
  | .scr _ => .dict []
def D.pys : List D → List PyData
  | [] => []
  | d :: l => D.py d :: D.pys l
end
def D.sh (d : D) : Bool := SeqAt.shaped d.py
def D.eqv (d e : D) : Bool := PyData.eqv d.py e.py
def D.flat : D → Bool
  | .non => true
  | .bl _ => true
  | .int _ => true
  | .str _ => true
  | _ => false
/-- == of flat values -/
def D.feq : D → D → Bool
  | .non, .non => true
  | .bl a, .bl b => a == b
  | .bl a, .int b => (if a then 1 else 0) == b
  | .int a, .bl b => a == (if b then 1 else 0)
  | .int a, .int b => a == b
  | .str a, .str b => a == b
  | _, _ => false
def D.eq? : D → D → Option Bool
  | .int i, .int j => some (i == j)
  | .str x, .str y => some (x == y)
  | .bl a, .bl b => some (a == b)
  | d, e => if d.sh && e.sh then some (d.eqv e) else none
def D.in? : D → D → Option Bool
  | .str x, .str y => if x.length = 1 then some (decide (x.cps.getD 0 0 ∈ y.cps.toList)) else none
  | x, .tup l => if x.flat && l.all D.flat then some (l.any fun y => y.feq x) else none
  | x, .lst l => if x.flat && l.all D.flat then some (l.any fun y => y.feq x) else if x.sh && (D.lst l).sh then some (l.any fun y => y.eqv x) else none
  | _, _ => none
def D.truth : D → Option Bool
  | .non => some false
  | .bl b => some b
  | .int i => some (i != 0)
  | .str x => if x.length ≤ sizeLine then some ((x.length : Int) != 0) else none
  | .tup l => some (!l.isEmpty)
  | .lst l => some (!l.isEmpty)
  | _ => none

/-! ### operations by values -/
inductive Ty where
  | int | bool | str | tuple | list
  deriving DecidableEq
inductive Op1 where
  | neg | not | len | tuple | list | all | any | sum | int | str | repr | abs | isi (t : Ty) | isN | notN | isB (b : Bool) | notB (b : Bool) | bitlen | rev | maxL | minL
  deriving DecidableEq
inductive Op2 where
  | add | sub | mul | fdiv | mod | pow | band | bor | bxor | shl | shr | eq | ne | lt | le | gt | ge | in_ | nin | idx | min | max | count | join
  deriving DecidableEq

def D.isTy : Ty → D → Option Bool
  | .int, .int _ => some true
  | .int, .bl _ => some true
  | .bool, .bl _ => some true
  | .str, .str _ => some true
  | .tuple, .tup _ => some true
  | .list, .lst _ => some true
  | _, .ref _ => none
  | _, .own _ => none
  | _, .scr _ => none
  | _, _ => some false
def D.bool? : D → Option Bool
  | .bl b => some b
  | _ => none
def D.int? : D → Option Int
  | .int i => some i
  | _ => none
def D.str? : D → Option Str
  | .str x => some x
  | _ => none
def op1 : Op1 → D → Option D
  | .neg, .int i => some (.int (-i))
  | .not, d => d.truth.map fun b => .bl (!b)
  | .len, .str x => if x.length ≤ sizeLine then some (.int x.length) else none
  | .len, .tup l => some (.int l.length)
  | .len, .lst l => some (.int l.length)
  | .len, .scr l => some (.int l.length)
  | .tuple, .lst l => some (.tup l)
  | .tuple, .tup l => some (.tup l)
  | .list, .lst l => some (.lst l)
  | .list, .tup l => some (.lst l)
  | .all, .lst l => (l.mapM D.bool?).map fun bs => .bl (bs.all id)
  | .any, .lst l => (l.mapM D.bool?).map fun bs => .bl (bs.any id)
  | .sum, .lst l => (l.mapM D.int?).map fun ns => .int ns.sum
  | .int, .int i => some (.int i)
  | .int, .bl b => some (.int (if b then 1 else 0))
  | .int, .str x => if x.length ≤ 640 then (intText? x).map fun n => .int n else none
  | .str, .int i => if i.natAbs.log2 < 1920 then some (.str (Str.ofString (toString i))) else none
  | .str, .str x => some (.str x)
  | .repr, .int i => if i.natAbs.log2 < 1920 then some (.str (Str.ofString (toString i))) else none
  | .repr, .bl b => some (.str (if b then "True" else "False"))
  | .abs, .int i => some (.int (if i < 0 then -i else i))
  | .isi t, d => (d.isTy t).map .bl
  | .isN, .own _ => some (.bl false)
  | .isN, .non => some (.bl true)
  | .isN, _ => some (.bl false)
  | .notN, .non => some (.bl false)
  | .notN, _ => some (.bl true)
  | .isB b, .bl a => some (.bl (decide (a = b)))
  | .notB b, .bl a => some (.bl (!decide (a = b)))
  | .bitlen, .int i => some (.int (if i = 0 then 0 else (i.natAbs.log2 + 1 : Nat)))
  | .rev, .lst l => some (.lst l.reverse)
  | _, _ => none
/-- a part of a sequence -/
def cut {α : Type} (xs : List α) (lo hi : Option Int) : List α := (xs.drop (HT.sIx xs.length 0 lo)).take (HT.sIx xs.length xs.length hi - HT.sIx xs.length 0 lo)
def sl3 : D → Option Int → Option Int → Option D
  | .tup l, a, b => some (.tup (cut l a b))
  | .lst l, a, b => some (.lst (cut l a b))
  | .str x, a, b => if x.length ≤ sizeLine then some (.str (L2.cutS x a b)) else none
  | _, _, _ => none
def D.isStr : D → Bool
  | .str _ => true
  | _ => false
/-- what a method's receiver must be -/
def Op2.rcv : Op2 → D → Bool
  | .count, d => d.isStr
  | .join, d => d.isStr
  | _, _ => true
/-- the guard of a product: a factor below 2^64, or less than a million bits together -/
def mulOk (i j : Int) : Bool := decide (i.natAbs < 2 ^ 64) || decide (j.natAbs < 2 ^ 64) || decide (i.natAbs.log2 + j.natAbs.log2 < 1000000)
def op2 : Op2 → D → D → Option D
  | .add, .int i, .int j => some (.int (i + j))
  | .add, .str x, .str y => if x.length + y.length ≤ sizeLine then some (.str (x ++ y)) else none
  | .add, .tup a, .tup b => if a.length + b.length ≤ sizeLine then some (.tup (a ++ b)) else none
  | .add, .lst a, .lst b => if a.length + b.length ≤ sizeLine then some (.lst (a ++ b)) else none
  | .sub, .int i, .int j => some (.int (i - j))
  | .mul, .int i, .int j => if mulOk i j then some (.int (i * j)) else none
  | .mul, .lst l, .int k => if decide (-(2 ^ 63) ≤ k) && (decide (k < 2 ^ 63) && decide (l.length * k.toNat ≤ sizeLine)) then some (.lst (List.replicate k.toNat l).flatten) else none
  | .fdiv, .int i, .int j => if decide (0 < j) && decide (j.natAbs.log2 < 9000) then some (.int (i / j)) else none
  | .mod, .int i, .int j => if 0 < j then some (.int (i % j)) else none
  | .pow, .int i, .int j => if decide (0 ≤ j) && (decide (j ≤ 1000000) && decide (i.natAbs < 2 ^ 64)) then some (.int (i ^ j.toNat)) else none
  | .band, .int i, .int j => some (.int (Builtin.bitAnd i j))
  | .bor, .int i, .int j => some (.int (Builtin.bitOr i j))
  | .bxor, .int i, .int j => some (.int (Builtin.bitXor i j))
  | .shl, .int i, .int j => if decide (0 ≤ j) && decide (i.natAbs.log2 + j.toNat < 1000000) then some (.int (i * 2 ^ j.toNat)) else none
  | .shr, .int i, .int j => if 0 ≤ j then some (.int (i / 2 ^ j.toNat)) else none
  | .eq, a, b => (a.eq? b).map .bl
  | .ne, a, b => (a.eq? b).map fun c => .bl (!c)
  | .lt, .int i, .int j => some (.bl (decide (i < j)))
  | .le, .int i, .int j => some (.bl (decide (i ≤ j)))
  | .gt, .int i, .int j => some (.bl (decide (j < i)))
  | .ge, .int i, .int j => some (.bl (decide (j ≤ i)))
  | .in_, a, b => (a.in? b).map .bl
  | .nin, a, b => (a.in? b).map fun c => .bl (!c)
  | .idx, .tup l, .int i => L2.atI l i
  | .idx, .lst l, .int i => L2.atI l i
  | .idx, .scr l, .int i => (L2.atI l i).map .int
  | .idx, .str x, .int i => if x.length ≤ sizeLine then (L2.atI x.cps.toList i).map fun c => .str ⟨#[c]⟩ else none
  | .min, .int i, .int j => some (.int (if j < i then j else i))
  | .max, .int i, .int j => some (.int (if j > i then j else i))
  | .count, .str x, .str y => some (.int (Txt.count x y))
  | .join, .str x, .lst l => (l.mapM D.str?).bind fun ys => if (ys.map (·.length)).sum + ys.length * x.length ≤ 16777216 then some (.str (Txt.join x ys)) else none
  | _, _, _ => none
/-- op= of a name: numbers and texts -/
def aop (o : Op2) (x y : D) : Option D := match x, y with
  | .int i, .int j => op2 o (.int i) (.int j)
  | .str a, .str b => op2 o (.str a) (.str b)
  | _, _ => none
end MP

set_option Elab.async false
set_option linter.all false
set_option maxRecDepth 100000
set_option maxHeartbeats 1000000
/-! MP, part b: the small language and its evaluator -/
namespace MP
open PySem

/-! ### equality of values is decided -/
mutual
def D.same : D → D → Bool
  | .non, .non => true
  | .bl a, .bl b => a == b
  | .int a, .int b => a == b
  | .str a, .str b => a == b
  | .tup a, .tup b => D.sames a b
  | .lst a, .lst b => D.sames a b
  | .ref a, .ref b => a == b
  | .own a, .own b => a == b
  | .scr a, .scr b => a == b
  | _, _ => false
def D.sames : List D → List D → Bool
  | [], [] => true
  | a :: l, b :: m => D.same a b && D.sames l m
  | _, _ => false
end
mutual
theorem D.same_eq : ∀ a b : D, D.same a b = true → a = b := fun a b h => by
  cases a <;> cases b <;> simp only [D.same] at h <;> try (first | rfl | (exact absurd h Bool.false_ne_true) | (rw [eq_of_beq h]))
  · rw [D.sames_eq _ _ h]
  · rw [D.sames_eq _ _ h]
theorem D.sames_eq : ∀ a b : List D, D.sames a b = true → a = b := fun a b h => by
  cases a <;> cases b <;> simp only [D.sames] at h <;> try (first | rfl | exact absurd h Bool.false_ne_true)
  obtain ⟨h1, h2⟩ := Bool.and_eq_true_iff.mp h
  rw [D.same_eq _ _ h1, D.sames_eq _ _ h2]
end
mutual
theorem D.same_self : ∀ a : D, D.same a a = true := fun a => by
  cases a <;> simp only [D.same, beq_self_eq_true]
  · exact D.sames_self _
  · exact D.sames_self _
theorem D.sames_self : ∀ a : List D, D.sames a a = true := fun a => by
  cases a with
  | nil => rfl
  | cons x l => simp only [D.sames, D.same_self x, D.sames_self l, Bool.and_self]
end
theorem D.same_iff {a b : D} : D.same a b = true ↔ a = b := ⟨D.same_eq a b, fun e => by rw [e]; exact D.same_self b⟩
instance : DecidableEq D := fun a b => decidable_of_iff (D.same a b = true) D.same_iff

/-! ### the heap's objects as values -/
/-- an operand: a list of the heap, or one that a local name owns, as it is now -/
def rs (s : Sl) (M : MH) : D → D
  | .ref r => match M[r]? with
    | some (.lst l) => .lst l
    | _ => .ref r
  | .own i => match s[i]? with
    | some (.own l) => .lst l
    | _ => .own i
  | d => d
@[simp] theorem rs_non (s M) : rs s M .non = .non := rfl
@[simp] theorem rs_bl (s M b) : rs s M (.bl b) = .bl b := rfl
@[simp] theorem rs_int (s M i) : rs s M (.int i) = .int i := rfl
@[simp] theorem rs_str (s M i) : rs s M (.str i) = .str i := rfl
@[simp] theorem rs_tup (s M i) : rs s M (.tup i) = .tup i := rfl
@[simp] theorem rs_lst (s M i) : rs s M (.lst i) = .lst i := rfl
@[simp] theorem rs_scr (s M i) : rs s M (.scr i) = .scr i := rfl

/-- methods that change a list or a dict (its new content, what comes back) -/
inductive MOp where
  | append | extend | pop | popAt | insert | remove | reverse | sort | clear | setdefault
  deriving DecidableEq
/-- looks at a dict -/
inductive ROp where
  | dlen | din | dnin | ditem | dget1 | dget2
  deriving DecidableEq

mutual
inductive ME where
  | var (i : Nat) | bor (i : Nat) | cst (d : D) | glob (g : Nat)
  | op1 (o : Op1) (a : ME) | op2 (o : Op2) (a b : ME) | sl (a : ME) (lo hi : MB) | chain (o1 o2 : Op2) (a b c : ME)
  | tup (es : MEs) | disp (es : MEs) | ite (t : MT) (a b : ME) | and (es : MEs) | or (es : MEs)
  | call (f : Nat) (es : MEs) | comp (own : List Nat) (g : MG) (it : MI) (t : MT) (e : ME)
  | hp (e : ME) | dnew (tup : Bool) | fld (o : ME) (f : Nat) | meth (o : ME) (m : Nat) (es : MEs) | new (c : Nat) (es : MEs)
  | mop (o : MOp) (a : ME) (es : MEs) | rop (o : ROp) (a : ME) (es : MEs)
inductive MEs where
  | nil | cons (e : ME) (es : MEs)
inductive MB where
  | no | e (a : ME)
inductive MT where
  | yes | e (a : ME) | not (t : MT) | and (ts : MTs) | or (ts : MTs)
inductive MTs where
  | nil | cons (t : MT) (ts : MTs)
inductive MG where
  | nm (i : Nat) | tup (gs : MGs)
inductive MGs where
  | nil | cons (g : MG) (gs : MGs)
inductive MI where
  | seq (a : ME) | rng1 (a : ME) | rng2 (a b : ME) | rng3 (a b c : ME) | enum (a : ME) | zip (a b : ME)
end
mutual
inductive MS where
  | set (i : Nat) (e : ME) | setO (i : Nat) (e : ME) | app (i : Nat) (e : ME) | ext (i : Nat) (e : ME) | sto (i : Nat) (a e : ME)
  | unp (g : MG) (e : ME) | sat (o i e : ME) | sfl (o : ME) (f : Nat) (e : ME) | aug (o : Op2) (i : Nat) (e : ME) | afl (op : Op2) (o : ME) (f : Nat) (e : ME)
  | ex (e : ME) | iff (t : MT) (a b : MSs) | for (g : MG) (it : MI) (b : MSs) | while (t : MT) (b : MSs)
  | ret (e : ME) | retO (i : Nat) | retN | pass | brk | cont | raise (c : Nat) (es : MEs) | try (b : MSs) (hs : MHs) | frz (i : Nat)
inductive MSs where
  | nil | cons (s : MS) (r : MSs)
inductive MHs where
  | nil | cons (cs : List Nat) (v : Option Nat) (b : MSs) (r : MHs)
end
/-- a statement's end: on, break, continue, return, an error (its class, its fields, the slots as they were) -/
inductive Flow where
  | nx (s : Sl) | bk (s : Sl) | ct (s : Sl) | rt (d : D) | xc (c : Nat) (fs : List D) (s : Sl)
/-- a value of an expression in a statement at s -/
def Res.sb {α : Type} (s : Sl) (r : Res α) (f : α → MH → Res Flow) : Res Flow := match r with
  | .ok a M => f a M
  | .exc c fs M => .ok (.xc c fs s) M
  | .bad => .bad
@[simp] theorem Res.sb_ok {α : Type} (s : Sl) (a : α) (M : MH) (f : α → MH → Res Flow) : (Res.ok a M).sb s f = f a M := rfl
@[simp] theorem Res.sb_exc {α : Type} (s : Sl) (c : Nat) (fs : List D) (M : MH) (f : α → MH → Res Flow) : (Res.exc c fs M : Res α).sb s f = .ok (.xc c fs s) M := rfl
@[simp] theorem Res.sb_bad {α : Type} (s : Sl) (f : α → MH → Res Flow) : (Res.bad : Res α).sb s f = .bad := rfl

/-- what a body may ask of the program -/
structure Env where
  call : Nat → List D → MH → Res D
  glob : List D
  meth : Nat → Nat → Option Nat
  init : Nat → Option Nat
  /-- is the second class of errors the first one or above it -/
  sub : Nat → Nat → Bool
  W : Nat

mutual
def bindG : MG → D → Sl → Option Sl
  | .nm i, d, s => some (s.set i (.val d))
  | .tup gs, .tup ds, s => bindGs gs ds s
  | .tup gs, .lst ds, s => bindGs gs ds s
  | .tup _, _, _ => none
def bindGs : MGs → List D → Sl → Option Sl
  | .nil, [], s => some s
  | .cons g gs, d :: ds, s => (bindG g d s).bind fun s => bindGs gs ds s
  | _, _, _ => none
end
def wipeS (s : Sl) : List Nat → Sl
  | [] => s
  | v :: vs => (wipeS s vs).set v .no

/-- a comprehension's turns -/
def loopC (same : MH → Bool) (turn : D → MH → Res (Option D)) : List D → MH → Res (List D)
  | [], M => if same M then .ok [] M else .bad
  | x :: xs, M => if same M then (turn x M).bind fun o M => (loopC same turn xs M).bind fun ds M => .ok (o.toList ++ ds) M else .bad
/-- a for's turns -/
def loopF (same : Sl → MH → Bool) (turn : D → Sl → MH → Res Flow) : List D → Sl → MH → Res Flow
  | [], s, M => if same s M then .ok (.nx s) M else .bad
  | x :: xs, s, M => if same s M then (turn x s M).bind fun f M => match f with
      | .nx s => loopF same turn xs s M
      | .ct s => loopF same turn xs s M
      | .bk s => .ok (.nx s) M
      | f => .ok f M
    else .bad
/-- a while's turns -/
def loopW (test : Sl → MH → Res Bool) (turn : Sl → MH → Res Flow) : Nat → Sl → MH → Res Flow
  | 0, _, _ => .bad
  | n + 1, s, M => (test s M).sb s fun k M => if k then (turn s M).bind fun f M => match f with
      | .nx s => loopW test turn n s M
      | .ct s => loopW test turn n s M
      | .bk s => .ok (.nx s) M
      | f => .ok f M
    else .ok (.nx s) M
/-- what no exception leaves -/
def Res.calm {α : Type} : Res α → Res α
  | .exc _ _ _ => .bad
  | r => r
@[simp] theorem Res.calm_ok {α : Type} (a : α) (M : MH) : (Res.ok a M).calm = .ok a M := rfl
@[simp] theorem Res.calm_exc {α : Type} (c fs M) : (Res.exc c fs M : Res α).calm = .bad := rfl
@[simp] theorem Res.calm_bad {α : Type} : (Res.bad : Res α).calm = .bad := rfl

/-- is a walked thing as it was: asked of lists that may change -/
def sameB (s : Sl) (M : MH) (x d : D) : Bool := match x with
  | .ref _ => decide (rs s M x = d)
  | .own _ => decide (rs s M x = d)
  | _ => true
def sameA (s : Sl) (M : MH) (ps : List (D × List D)) : Bool := ps.all fun q => sameB s M q.1 (.lst q.2)
def D.isOwn : D → Bool
  | .own _ => true
  | _ => false
def noOwn (ps : List (D × List D)) : Bool := ps.all fun q => !q.1.isOwn
def pairs (l m : List D) : List D := (l.zip m).map fun p => .tup [p.1, p.2]
def nums (l : List D) : List D := l.mapIdx fun i d => .tup [.int i, d]
/-- the items of a walked thing -/
def D.items : D → Option (List D)
  | .tup l => some l
  | .lst l => some l
  | .str x => if x.length ≤ sizeLine then some (x.cps.toList.map fun c => .str ⟨#[c]⟩) else none
  | _ => none
def rngOk (i : Int) : Bool := decide (-(2 ^ 62) ≤ i) && decide (i < 2 ^ 62)
def rngUp (a b c : Int) : Nat := ((b - a + c - 1) / c).toNat
def rngL (a : Int) (n : Nat) (c : Int) : List D := (List.range n).map fun (i : Nat) => .int (a + (i : Int) * c)

/-! ### objects -/
def putF (f : Nat) (d : D) : List (Nat × D) → List (Nat × D)
  | [] => [(f, d)]
  | (g, e) :: r => if g = f then (g, d) :: r else (g, e) :: putF f d r
def getF (fs : List (Nat × D)) (f : Nat) : Option D := fs.lookup f
/-- a dict's key -/
def keyK : D → Option L2.Key
  | .int i => some (.inl i)
  | .str x => some (.inr x)
  | _ => none
def keyT : D → Option (List L2.Key)
  | .tup l => l.mapM keyK
  | _ => none
def mop : MOp → MO → List D → Option (D × MO)
  | .append, .lst l, [d] => if l.length < sizeLine then some (.non, .lst (l ++ [d])) else none
  | .extend, .lst l, [.lst m] => if l.length + m.length ≤ sizeLine then some (.non, .lst (l ++ m)) else none
  | .pop, .lst l, [] => (l[l.length - 1]?).map fun d => (d, .lst l.dropLast)
  | .popAt, .lst l, [.int i] => if decide (-(2 ^ 63) ≤ i) && decide (i < 2 ^ 63) then (seqIndex? i l.length).bind fun k => (l[k]?).map fun d => (d, .lst (l.eraseIdx k)) else none
  | .insert, .lst l, [.int i, d] => if decide (l.length < sizeLine) && decide (0 ≤ i) && decide (i < 2 ^ 63) then some (.non, .lst (l.take i.toNat ++ [d] ++ l.drop i.toNat)) else none
  | .reverse, .lst l, [] => some (.non, .lst l.reverse)
  | .clear, .lst _, [] => some (.non, .lst [])
  | .setdefault, .dic kvs, [k, d] => (keyK k).bind fun k => match kvs.lookup k with
    | some e => some (e, .dic kvs)
    | none => if kvs.length < sizeLine then some (d, .dic (kvs ++ [(k, d)])) else none
  | _, _, _ => none
def dicPut {κ : Type} [DecidableEq κ] (k : κ) (d : D) : List (κ × D) → List (κ × D)
  | [] => [(k, d)]
  | (g, e) :: r => if g = k then (g, d) :: r else (g, e) :: dicPut k d r
def dicGet {κ : Type} [DecidableEq κ] (kvs : List (κ × D)) (k : κ) : Option D := (kvs.find? fun kv => decide (kv.1 = k)).map (·.2)
def look : MO → D → Option (Option D)
  | .dic kvs, k => (keyK k).map fun k => dicGet kvs k
  | .dit kvs, k => (keyT k).map fun k => dicGet kvs k
  | _, _ => none
def rop : ROp → MO → List D → Option D
  | .dlen, .dic kvs, [] => some (.int kvs.length)
  | .dlen, .dit kvs, [] => some (.int kvs.length)
  | .din, o, [k] => (look o k).map fun v => .bl v.isSome
  | .dnin, o, [k] => (look o k).map fun v => .bl (!v.isSome)
  | .ditem, o, [k] => (look o k).bind id
  | .dget1, o, [k] => (look o k).map fun v => v.getD .non
  | .dget2, o, [k, d] => (look o k).map fun v => v.getD d
  | _, _, _ => none
/-- o[i] = d -/
def stoO : MO → D → D → Option MO
  | .lst l, .int i, d => (L2.ixN l.length i).map fun j => .lst (l.set j d)
  | .dic kvs, k, d => (keyK k).bind fun k => if kvs.length < sizeLine then some (.dic (dicPut k d kvs)) else none
  | .dit kvs, k, d => (keyT k).bind fun k => if kvs.length < sizeLine then some (.dit (dicPut k d kvs)) else none
  | _, _, _ => none

/-! ### the evaluator -/
mutual
def evE (R : Env) (b : Bool) (s : Sl) : ME → MH → Res D
  | .var i, M => match s[i]? with
    | some (.val d) => .ok d M
    | _ => .bad
  | .bor i, M => match s[i]? with
    | some (.own _) => if b then .ok (.own i) M else .bad
    | _ => .bad
  | .cst d, M => .ok d M
  | .glob g, M => .opt R.glob[g]? M
  | .op1 o a, M => (evE R true s a M).bind fun x M => .opt (op1 o (rs s M x)) M
  | .op2 o a c, M => (evE R true s a M).bind fun x M => if o.rcv (rs s M x) then (evE R true s c M).bind fun y M => .opt (op2 o (rs s M x) (rs s M y)) M else .bad
  | .sl a lo hi, M => (evE R true s a M).bind fun x M => (evB R s lo M).bind fun y M => (evB R s hi M).bind fun z M => .opt (sl3 (rs s M x) y z) M
  | .chain o1 o2 a c e, M => (evE R false s a M).bind fun x M => (evE R false s c M).bind fun y M => (Res.opt (op2 o1 x y) M).bind fun r M => match r with
      | .bl true => (evE R false s e M).bind fun z M => .opt (op2 o2 y z) M
      | .bl false => .ok (.bl false) M
      | _ => .bad
  | .tup es, M => (evEs R s es M).bind fun ds M => if ds.length ≤ sizeLine then .ok (.tup ds) M else .bad
  | .disp es, M => (evEs R s es M).bind fun ds M => if ds.length ≤ sizeLine then .ok (.lst ds) M else .bad
  | .ite t a c, M => (evT R s t M).bind fun k M => if k then evE R false s a M else evE R false s c M
  | .and es, M => evAnd R s es M
  | .or es, M => evOr R s es M
  | .call f es, M => (evEs R s es M).bind fun ds M => R.call f ds M
  | .comp own g it t e, M => (evI R s it M).bind fun p M => if p.2.length ≤ sizeLine then
      ((loopC (fun M => sameA s M p.1) (fun x M => (Res.opt (bindG g x (wipeS s own)) M).bind fun s1 M => (evT R s1 t M).bind fun k M => if k then (evE R false s1 e M).bind fun d M => .ok (some d) M else .ok none M) p.2 M).bind fun ds M => .ok (.lst ds) M).calm
    else .bad
  | .hp e, M => (evE R false s e M).bind fun x M => match x with
      | .lst l => .ok (.ref M.length) (M ++ [.lst l])
      | _ => .bad
  | .dnew t, M => .ok (.ref M.length) (M ++ [if t then .dit [] else .dic []])
  | .fld o f, M => (evE R false s o M).bind fun x M => match x with
      | .ref r => match M[r]? with
        | some (.ins _ fs) => .opt (getF fs f) M
        | _ => .bad
      | _ => .bad
  | .meth o m es, M => (evE R false s o M).bind fun x M => match x with
      | .ref r => match M[r]? with
        | some (.ins c fs) => match R.meth c m, getF fs m with
          | some f, none => (evEs R s es M).bind fun ds M => R.call f (.ref r :: ds) M
          | _, _ => .bad
        | _ => .bad
      | _ => .bad
  | .new c es, M => (evEs R s es M).bind fun ds M => match R.init c with
      | some f => (R.call f (.ref M.length :: ds) (M ++ [.ins c []])).bind fun v M2 => match v with
        | .non => .ok (.ref M.length) M2
        | _ => .bad
      | none => .bad
  | .mop o a es, M => (evE R false s a M).bind fun x M => (evEs R s es M).bind fun ds M => match x with
      | .ref r => match M[r]? with
        | some ob => (Res.opt (mop o ob (ds.map (rs s M))) M).bind fun p M => .ok p.1 (M.set r p.2)
        | none => .bad
      | _ => .bad
  | .rop o a es, M => (evE R false s a M).bind fun x M => (evEs R s es M).bind fun ds M => match x with
      | .ref r => match M[r]? with
        | some ob => .opt (rop o ob ds) M
        | none => .bad
      | _ => .bad
def evEs (R : Env) (s : Sl) : MEs → MH → Res (List D)
  | .nil, M => .ok [] M
  | .cons e es, M => (evE R false s e M).bind fun d M => (evEs R s es M).bind fun ds M => .ok (d :: ds) M
def evB (R : Env) (s : Sl) : MB → MH → Res (Option Int)
  | .no, M => .ok none M
  | .e a, M => (evE R false s a M).bind fun x M => match x with
      | .int i => .ok (some i) M
      | _ => .bad
def evAnd (R : Env) (s : Sl) : MEs → MH → Res D
  | .nil, _ => .bad
  | .cons e .nil, M => evE R false s e M
  | .cons e es, M => (evE R false s e M).bind fun x M => (Res.opt (rs s M x).truth M).bind fun k M => if k then evAnd R s es M else .ok x M
def evOr (R : Env) (s : Sl) : MEs → MH → Res D
  | .nil, _ => .bad
  | .cons e .nil, M => evE R false s e M
  | .cons e es, M => (evE R false s e M).bind fun x M => (Res.opt (rs s M x).truth M).bind fun k M => if k then .ok x M else evOr R s es M
def evT (R : Env) (s : Sl) : MT → MH → Res Bool
  | .yes, M => .ok true M
  | .e a, M => (evE R true s a M).bind fun x M => .opt (rs s M x).truth M
  | .not t, M => (evT R s t M).bind fun k M => .ok (!k) M
  | .and ts, M => evAll R s ts M
  | .or ts, M => evAny R s ts M
def evAll (R : Env) (s : Sl) : MTs → MH → Res Bool
  | .nil, M => .ok true M
  | .cons t ts, M => (evT R s t M).bind fun k M => if k then evAll R s ts M else .ok false M
def evAny (R : Env) (s : Sl) : MTs → MH → Res Bool
  | .nil, M => .ok false M
  | .cons t ts, M => (evT R s t M).bind fun k M => if k then .ok true M else evAny R s ts M
/-- what is walked, its items -/
def evI (R : Env) (s : Sl) : MI → MH → Res (List (D × List D) × List D)
  | .seq a, M => (evE R true s a M).bind fun x M => (Res.opt (rs s M x).items M).bind fun l M => .ok ([(x, l)], l) M
  | .rng1 a, M => (evE R false s a M).bind fun x M => match x with
      | .int n => if rngOk n then .ok ([], rngL 0 n.toNat 1) M else .bad
      | _ => .bad
  | .rng2 a b, M => (evE R false s a M).bind fun x M => (evE R false s b M).bind fun y M => match x, y with
      | .int i, .int j => if rngOk i && rngOk j then .ok ([], rngL i (j - i).toNat 1) M else .bad
      | _, _ => .bad
  | .rng3 a b c, M => (evE R false s a M).bind fun x M => (evE R false s b M).bind fun y M => (evE R false s c M).bind fun z M => match x, y, z with
      | .int i, .int j, .int k => if rngOk i && rngOk j && (rngOk k && decide (0 < k)) then .ok ([], rngL i (rngUp i j k) k) M else .bad
      | _, _, _ => .bad
  | .enum a, M => (evE R true s a M).bind fun x M => match rs s M x with
      | .lst l => .ok ([(x, l)], nums l) M
      | _ => .bad
  | .zip a b, M => (evE R true s a M).bind fun x M => (evE R true s b M).bind fun y M => match rs s M x, rs s M y with
      | .lst l, .lst m => .ok ([(x, l), (y, m)], pairs l m) M
      | .tup l, .tup m => .ok ([], pairs l m) M
      | _, _ => .bad
end

mutual
def ex (R : Env) : MS → Sl → MH → Res Flow
  | .set i e, s, M => (evE R false s e M).sb s fun d M => .ok (.nx (s.set i (.val d))) M
  | .setO i e, s, M => (evE R false s e M).sb s fun d M => match d with
      | .lst l => .ok (.nx (s.set i (.own l))) M
      | _ => .bad
  | .app i e, s, M => match s[i]? with
      | some (.own l) => (evE R false s e M).sb s fun d M => if l.length < sizeLine then .ok (.nx (s.set i (.own (l ++ [d])))) M else .bad
      | _ => .bad
  | .ext i e, s, M => match s[i]? with
      | some (.own l) => (evE R true s e M).sb s fun x M => match rs s M x with
        | .lst m => if l.length + m.length ≤ sizeLine then .ok (.nx (s.set i (.own (l ++ m)))) M else .bad
        | .tup m => if l.length + m.length ≤ sizeLine then .ok (.nx (s.set i (.own (l ++ m)))) M else .bad
        | _ => .bad
      | _ => .bad
  | .sto i a e, s, M => (evE R false s e M).sb s fun d M => match s[i]? with
      | some (.own l) => (evE R false s a M).sb s fun x M => match x with
        | .int k => (Res.opt (L2.ixN l.length k) M).bind fun j M => .ok (.nx (s.set i (.own (l.set j d)))) M
        | _ => .bad
      | _ => .bad
  | .unp g e, s, M => (evE R true s e M).sb s fun d M => (Res.opt (bindG g (rs s M d) s) M).bind fun s M => .ok (.nx s) M
  | .sat o i e, s, M => (evE R false s e M).sb s fun d M => (evE R false s o M).sb s fun x M => (evE R false s i M).sb s fun y M => match x, y with
      | .ref r, .int k => match M[r]? with
        | some (.lst l) => (Res.opt (L2.ixN l.length k) M).bind fun j M => .ok (.nx s) (M.set r (.lst (l.set j d)))
        | _ => .bad
      | _, _ => .bad
  | .sfl o f e, s, M => (evE R false s e M).sb s fun d M => (evE R false s o M).sb s fun x M => match x with
      | .ref r => match M[r]? with
        | some (.ins c fs) => if fs.length < 1000 then .ok (.nx s) (M.set r (.ins c (putF f d fs))) else .bad
        | _ => .bad
      | _ => .bad
  | .aug o i e, s, M => match s[i]? with
      | some (.val x) => (evE R false s e M).sb s fun y M => (Res.opt (aop o x y) M).bind fun z M => .ok (.nx (s.set i (.val z))) M
      | _ => .bad
  | .afl op o f e, s, M => (evE R false s o M).sb s fun x M => match x with
      | .ref r => match M[r]? with
        | some (.ins _ fs) => (Res.opt (getF fs f) M).bind fun y M => (evE R false s e M).sb s fun z M => (Res.opt (aop op y z) M).bind fun v M => match M[r]? with
          | some (.ins c fs) => if fs.length < 1000 then .ok (.nx s) (M.set r (.ins c (putF f v fs))) else .bad
          | _ => .bad
        | _ => .bad
      | _ => .bad
  | .ex e, s, M => (evE R false s e M).sb s fun _ M => .ok (.nx s) M
  | .iff t a b, s, M => (evT R s t M).sb s fun k M => if k then exs R a s M else exs R b s M
  | .for g it b, s, M => (evI R s it M).sb s fun p M => if noOwn p.1 then loopF (fun s M => sameA s M p.1) (fun x s M => (Res.opt (bindG g x s) M).bind fun s M => exs R b s M) p.2 s M else .bad
  | .while t b, s, M => loopW (fun s M => evT R s t M) (fun s M => exs R b s M) R.W s M
  | .ret e, s, M => (evE R false s e M).sb s fun d M => .ok (.rt d) M
  | .retO i, s, M => match s[i]? with
      | some (.own l) => .ok (.rt (.lst l)) M
      | _ => .bad
  | .retN, _, M => .ok (.rt .non) M
  | .pass, s, M => .ok (.nx s) M
  | .brk, s, M => .ok (.bk s) M
  | .cont, s, M => .ok (.ct s) M
  | .raise c es, s, M => (evEs R s es M).sb s fun ds M => .ok (.xc c ds s) M
  | .try b hs, s, M => (exs R b s M).bind fun f M => match f with
      | .xc c fs s => hand R hs c fs s M
      | f => .ok f M
  | .frz i, s, M => match s[i]? with
      | some (.own l) => .ok (.nx (s.set i (.val (.lst l)))) M
      | _ => .bad
def exs (R : Env) : MSs → Sl → MH → Res Flow
  | .nil, s, M => .ok (.nx s) M
  | .cons st r, s, M => (ex R st s M).bind fun f M => match f with
      | .nx s => exs R r s M
      | f => .ok f M
def hand (R : Env) : MHs → Nat → List D → Sl → MH → Res Flow
  | .nil, c, fs, s, M => .ok (.xc c fs s) M
  | .cons cs v b r, c, fs, s, M => if cs.any (R.sub c) then (match v with
      | none => exs R b s M
      | some _ => .bad) else hand R r c fs s M
end
end MP

set_option Elab.async false
set_option linter.all false
set_option maxRecDepth 100000
set_option autoImplicit false
set_option maxHeartbeats 1000000
/-! MP, part c: how the small language's states lie in the model's -/
namespace MP
open PySem L2
abbrev Frag := PySem.W.Frag

/-- mu: where the small heap's objects stand; fz: the lists that nobody changes any more -/
structure Gh where
  mu : List Addr
  fz : Addr → Prop
def Gh.freeze (G : Gh) (p : Addr) : Gh := ⟨G.mu, fun a => G.fz a ∨ a = p⟩
def Gh.push (G : Gh) (p : Addr) : Gh := ⟨G.mu ++ [p], G.fz⟩
/-- the program's tables: where the classes stand, what the fields are called -/
structure Cl where
  cls : Nat → Addr
  fnm : Nat → Str
  inj : ∀ i j, fnm i = fnm j → i = j

/-- the script -/
def ScrL (K : Frag) (H : Hp) (a : Addr) (xs : List V) : Prop := (∃ o, H a = some (.frz o (.lst xs))) ∨
  ∃ (o : Obj) (its : Array Value) (n : Nat), K.lookup a = some o ∧ o.cls = .type "list" ∧ o.dict = none ∧ o.data = .seq its n ∧ its.size ≤ sizeLine ∧ Vals xs its.toList
theorem ScrL.sq {K : Frag} {H : Hp} {a : Addr} {xs : List V} (h : ScrL K H a xs) : SqL K H a xs := by
  rcases h with h | h
  · exact .inl (.inr h)
  · exact .inr h

mutual
inductive Rep (K : Frag) (G : Gh) (H : Hp) : D → V → Prop where
  | non : Rep K G H .non .non
  | bl (b : Bool) : Rep K G H (.bl b) (.bl b)
  | int (i : Int) : Rep K G H (.int i) (.int i)
  | str (x : Str) : Rep K G H (.str x) (.str x)
  | tup {ds : List D} {xs : List V} {a : Addr} : SqT K H a xs → Reps K G H ds xs → Rep K G H (.tup ds) (.ref a)
  | lst {ds : List D} {xs : List V} {a : Addr} : G.fz a → H a = some (.lst xs) → Reps K G H ds xs → Rep K G H (.lst ds) (.ref a)
  | ref {r : Nat} {a : Addr} : G.mu[r]? = some a → Rep K G H (.ref r) (.ref a)
  | scr {ns : List Int} {a : Addr} : ScrL K H a (ns.map V.int) → Rep K G H (.scr ns) (.ref a)
inductive Reps (K : Frag) (G : Gh) (H : Hp) : List D → List V → Prop where
  | nil : Reps K G H [] []
  | cons {d : D} {v : V} {ds : List D} {vs : List V} : Rep K G H d v → Reps K G H ds vs → Reps K G H (d :: ds) (v :: vs)
end
/-- an instance's fields -/
inductive RepF (C : Cl) (K : Frag) (G : Gh) (H : Hp) : List (Nat × D) → List (Str × V) → Prop where
  | nil : RepF C K G H [] []
  | cons {f : Nat} {d : D} {v : V} {fs : List (Nat × D)} {vs : List (Str × V)} : Rep K G H d v → RepF C K G H fs vs → RepF C K G H ((f, d) :: fs) ((C.fnm f, v) :: vs)
/-- a dict's pairs -/
inductive RepK {κ : Type} (K : Frag) (G : Gh) (H : Hp) : List (κ × D) → List (κ × V) → Prop where
  | nil : RepK K G H [] []
  | cons {k : κ} {d : D} {v : V} {fs : List (κ × D)} {vs : List (κ × V)} : Rep K G H d v → RepK K G H fs vs → RepK K G H ((k, d) :: fs) ((k, v) :: vs)
def RepO (C : Cl) (K : Frag) (G : Gh) (H : Hp) (a : Addr) : MO → Prop
  | .lst l => ∃ xs, H a = some (.lst xs) ∧ Reps K G H l xs
  | .ins c fs => ∃ dx vs, H a = some (.ins (C.cls c) dx vs) ∧ H dx = some (.own a) ∧ RepF C K G H fs vs
  | .dic kvs => ∃ vs, H a = some (.dK vs) ∧ RepK K G H kvs vs
  | .dit kvs => ∃ vs, H a = some (.dT vs) ∧ RepK K G H kvs vs

/-- what may have become of a heap: nothing but the small heap's objects is changed, new things are new -/
structure Ext (G : Gh) (H : Hp) (G' : Gh) (H' : Hp) : Prop where
  mu : ∃ t, G'.mu = G.mu ++ t ∧ ∀ a ∈ t, H a = none
  fz : ∀ a, G.fz a → G'.fz a
  nfz : ∀ a, G'.fz a → G.fz a ∨ H a = none
  keep : ∀ a o, H a = some o → a ∉ G.mu → H' a = some o
  fl : ∀ a, G.fz a → H' a = H a
  tup : ∀ a xs, Rd H a (.tup xs) → Rd H' a (.tup xs)
  frz : ∀ a o u, H a = some (.frz o u) → H' a = some (.frz o u)
  own : ∀ a x, H a = some (.own x) → H' a = some (.own x)
  there : ∀ a, H a ≠ none → H' a ≠ none
/-- what a value's reading leans on -/
structure Le (G : Gh) (H : Hp) (G' : Gh) (H' : Hp) : Prop where
  mu : ∀ (r : Nat) a, G.mu[r]? = some a → G'.mu[r]? = some a
  fz : ∀ a, G.fz a → G'.fz a
  fl : ∀ a, G.fz a → H' a = H a
  tup : ∀ a xs, Rd H a (.tup xs) → Rd H' a (.tup xs)
  frz : ∀ a o u, H a = some (.frz o u) → H' a = some (.frz o u)
  own : ∀ a x, H a = some (.own x) → H' a = some (.own x)
structure RelM (C : Cl) (K : Frag) (G : Gh) (H : Hp) (M : MH) : Prop where
  len : G.mu.length = M.length
  nd : G.mu.Nodup
  nfz : ∀ a ∈ G.mu, ¬ G.fz a
  ob : ∀ (r : Nat) (a : Addr) (o : MO), G.mu[r]? = some a → M[r]? = some o → RepO C K G H a o
  fzl : ∀ a, G.fz a → ∃ xs, H a = some (.lst xs)
/-- the local names -/
structure RelS (K : Frag) (G : Gh) (H : Hp) (σ : St) (s : Sl) : Prop where
  len : s.length = σ.length
  val : ∀ (i : Nat) d, s[i]? = some (.val d) → ∃ v, σ[i]? = some (some v) ∧ Rep K G H d v
  own : ∀ (i : Nat) l, s[i]? = some (.own l) → ∃ a xs, σ[i]? = some (some (.ref a)) ∧ H a = some (.lst xs) ∧ Reps K G H l xs ∧ a ∉ G.mu ∧ ¬ G.fz a
  dis : ∀ (i j : Nat) l m a, i ≠ j → s[i]? = some (.own l) → s[j]? = some (.own m) → σ[i]? = some (some (.ref a)) → σ[j]? ≠ some (some (.ref a))

section
variable {C : Cl} {K : Frag} {G G' G1 G2 : Gh} {H H' H1 H2 : Hp} {M M' : MH} {σ : St} {s : Sl}
theorem Ext.refl : Ext G H G H := ⟨⟨[], by simp, by simp⟩, fun _ h => h, fun _ h => .inl h, fun _ _ h _ => h, fun _ _ => rfl, fun _ _ h => h, fun _ _ _ h => h, fun _ _ h => h, fun _ h => h⟩
theorem some_ne {α : Type} {x : Option α} {a : α} (h : x = some a) : x ≠ none := by rw [h]; simp
theorem Ext.trans (a : Ext G H G1 H1) (b : Ext G1 H1 G2 H2) : Ext G H G2 H2 := by
  obtain ⟨t, e1, n1⟩ := a.mu
  obtain ⟨u, e2, n2⟩ := b.mu
  have nn : ∀ x, H1 x = none → H x = none := fun x h => by
    cases q : H x with
    | none => rfl
    | some o => exact absurd h (a.there x (some_ne q))
  refine ⟨⟨t ++ u, by rw [e2, e1, List.append_assoc], fun x hx => ?_⟩, fun x h => b.fz x (a.fz x h), fun x h => ?_, fun x o h hm => ?_, fun x h => ?_, fun x xs h => b.tup x xs (a.tup x xs h), fun x o u h => b.frz x o u (a.frz x o u h), fun x y h => b.own x y (a.own x y h), fun x h => b.there x (a.there x h)⟩
  · rcases List.mem_append.mp hx with h | h
    · exact n1 x h
    · exact nn x (n2 x h)
  · rcases b.nfz x h with h | h
    · exact a.nfz x h
    · exact .inr (nn x h)
  · refine b.keep x o (a.keep x o h hm) fun hx => ?_
    rw [e1] at hx
    rcases List.mem_append.mp hx with q | q
    · exact hm q
    · rw [n1 x q] at h; cases h
  · rw [b.fl x (a.fz x h), a.fl x h]
theorem Ext.muAt (e : Ext G H G' H') {r : Nat} {a : Addr} (h : G.mu[r]? = some a) : G'.mu[r]? = some a := by
  obtain ⟨t, e1, _⟩ := e.mu
  rw [e1, List.getElem?_append_left (List.getElem?_eq_some_iff.mp h).1]
  exact h
theorem Ext.le (e : Ext G H G' H') : Le G H G' H' := ⟨fun _ _ h => e.muAt h, e.fz, e.fl, e.tup, e.frz, e.own⟩
theorem Le.sqT (e : Le G H G' H') {a : Addr} {xs : List V} (h : SqT K H a xs) : SqT K H' a xs := by
  rcases h with h | h
  · exact .inl (e.tup a xs h)
  · exact .inr h
theorem Le.scr (e : Le G H G' H') {a : Addr} {xs : List V} (h : ScrL K H a xs) : ScrL K H' a xs := by
  rcases h with ⟨o, h⟩ | h
  · exact .inl ⟨o, e.frz a o _ h⟩
  · exact .inr h
mutual
theorem Rep.le (e : Le G H G' H') : ∀ {d : D} {v : V}, Rep K G H d v → Rep K G' H' d v
  | _, _, .non => .non
  | _, _, .bl b => .bl b
  | _, _, .int i => .int i
  | _, _, .str x => .str x
  | _, _, .tup h r => .tup (e.sqT h) (Reps.le e r)
  | _, _, .lst h h2 r => .lst (e.fz _ h) (by rw [e.fl _ h]; exact h2) (Reps.le e r)
  | _, _, .ref h => .ref (e.mu _ _ h)
  | _, _, .scr h => .scr (e.scr h)
theorem Reps.le (e : Le G H G' H') : ∀ {ds : List D} {vs : List V}, Reps K G H ds vs → Reps K G' H' ds vs
  | _, _, .nil => .nil
  | _, _, .cons r t => .cons (Rep.le e r) (Reps.le e t)
end
theorem Rep.mono (e : Ext G H G' H') {d : D} {v : V} (h : Rep K G H d v) : Rep K G' H' d v := h.le e.le
theorem Reps.mono (e : Ext G H G' H') {d : List D} {v : List V} (h : Reps K G H d v) : Reps K G' H' d v := h.le e.le
theorem RepF.mono (e : Le G H G' H') {fs : List (Nat × D)} {vs : List (Str × V)} (h : RepF C K G H fs vs) : RepF C K G' H' fs vs := by
  induction h with
  | nil => exact .nil
  | cons r _ ih => exact .cons (r.le e) ih
theorem RepK.mono {κ : Type} (e : Le G H G' H') {fs : List (κ × D)} {vs : List (κ × V)} (h : RepK K G H fs vs) : RepK K G' H' fs vs := by
  induction h with
  | nil => exact .nil
  | cons r _ ih => exact .cons (r.le e) ih
theorem Reps.length {ds : List D} {vs : List V} (h : Reps K G H ds vs) : ds.length = vs.length := by
  induction ds generalizing vs with
  | nil => cases h; rfl
  | cons d ds ih => cases h with
    | cons r t => simp [ih t]
theorem Reps.get {ds : List D} {vs : List V} {i : Nat} {d : D} (h : Reps K G H ds vs) (e : ds[i]? = some d) : ∃ v, vs[i]? = some v ∧ Rep K G H d v := by
  induction ds generalizing vs i with
  | nil => simp at e
  | cons x ds ih => cases h with
    | cons r t => cases i with
      | zero => simp at e; subst e; exact ⟨_, rfl, r⟩
      | succ i => obtain ⟨v, q, rv⟩ := ih t (by simpa using e); exact ⟨v, by simpa using q, rv⟩
theorem Reps.get' {ds : List D} {vs : List V} {i : Nat} {v : V} (h : Reps K G H ds vs) (e : vs[i]? = some v) : ∃ d, ds[i]? = some d ∧ Rep K G H d v := by
  induction ds generalizing vs i with
  | nil => cases h; simp at e
  | cons x ds ih => cases h with
    | cons r t => cases i with
      | zero => simp at e; subst e; exact ⟨_, rfl, r⟩
      | succ i => obtain ⟨v, q, rv⟩ := ih t (by simpa using e); exact ⟨v, by simpa using q, rv⟩
theorem Reps.append {ds es : List D} {vs ws : List V} (h : Reps K G H ds vs) (h2 : Reps K G H es ws) : Reps K G H (ds ++ es) (vs ++ ws) := by
  induction ds generalizing vs with
  | nil => cases h; exact h2
  | cons d ds ih => cases h with
    | cons r t => exact .cons r (ih t)
theorem Reps.take {ds : List D} {vs : List V} (h : Reps K G H ds vs) (n : Nat) : Reps K G H (ds.take n) (vs.take n) := by
  induction n generalizing ds vs with
  | zero => exact .nil
  | succ n ih => cases h with
    | nil => exact .nil
    | cons r t => exact .cons r (ih t)
theorem Reps.drop {ds : List D} {vs : List V} (h : Reps K G H ds vs) (n : Nat) : Reps K G H (ds.drop n) (vs.drop n) := by
  induction n generalizing ds vs with
  | zero => exact h
  | succ n ih => cases h with
    | nil => exact .nil
    | cons r t => exact ih t
theorem Reps.set {ds : List D} {vs : List V} (h : Reps K G H ds vs) (i : Nat) {d : D} {v : V} (r : Rep K G H d v) : Reps K G H (ds.set i d) (vs.set i v) := by
  induction i generalizing ds vs with
  | zero => cases h with
    | nil => exact .nil
    | cons _ t => exact .cons r t
  | succ n ih => cases h with
    | nil => exact .nil
    | cons q t => exact .cons q (ih t)
theorem Reps.reverse {ds : List D} {vs : List V} (h : Reps K G H ds vs) : Reps K G H ds.reverse vs.reverse := by
  induction ds generalizing vs with
  | nil => cases h; exact .nil
  | cons d ds ih => cases h with
    | cons r t => rw [List.reverse_cons, List.reverse_cons]; exact (ih t).append (.cons r .nil)
theorem Reps.dropLast {ds : List D} {vs : List V} (h : Reps K G H ds vs) : Reps K G H ds.dropLast vs.dropLast := by
  rw [List.dropLast_eq_take, List.dropLast_eq_take, h.length]
  exact h.take _
theorem Reps.eraseIdx {ds : List D} {vs : List V} (h : Reps K G H ds vs) (i : Nat) : Reps K G H (ds.eraseIdx i) (vs.eraseIdx i) := by
  rw [List.eraseIdx_eq_take_drop_succ, List.eraseIdx_eq_take_drop_succ]
  exact (h.take _).append (h.drop _)
theorem RepO.mono (e : Le G H G' H') {a : Addr} {o : MO} (ha : ∀ u, H a = some u → H' a = some u) (h : RepO C K G H a o) : RepO C K G' H' a o := by
  cases o with
  | lst l => obtain ⟨xs, h1, r⟩ := h; exact ⟨xs, ha _ h1, r.le e⟩
  | ins c fs => obtain ⟨dx, vs, h1, h2, r⟩ := h; exact ⟨dx, vs, ha _ h1, e.own _ _ h2, r.mono e⟩
  | dic kvs => obtain ⟨vs, h1, r⟩ := h; exact ⟨vs, ha _ h1, r.mono e⟩
  | dit kvs => obtain ⟨vs, h1, r⟩ := h; exact ⟨vs, ha _ h1, r.mono e⟩
theorem RelS.mono (e : Ext G H G' H') (h : RelS K G H σ s) : RelS K G' H' σ s := by
  obtain ⟨t, e1, n1⟩ := e.mu
  refine ⟨h.len, fun i d q => ?_, fun i l q => ?_, h.dis⟩
  · obtain ⟨v, h1, h2⟩ := h.val i d q
    exact ⟨v, h1, h2.mono e⟩
  · obtain ⟨a, xs, h1, h2, h3, h4, h5⟩ := h.own i l q
    refine ⟨a, xs, h1, e.keep a _ h2 h4, h3.mono e, fun hx => ?_, fun hx => ?_⟩
    · rw [e1] at hx
      rcases List.mem_append.mp hx with q | q
      · exact h4 q
      · rw [n1 a q] at h2; cases h2
    · rcases e.nfz a hx with q | q
      · exact h5 q
      · rw [q] at h2; cases h2

/-! ### a new thing -/
/-- kinds of objects that the small heap holds -/
theorem RepO.kind {a : Addr} {o : MO} (h : RepO C K G H a o) : ∃ u, H a = some u ∧ Mut (some u) := by
  cases o with
  | lst l => obtain ⟨xs, h1, _⟩ := h; exact ⟨_, h1, trivial⟩
  | ins c fs => obtain ⟨dx, vs, h1, _⟩ := h; exact ⟨_, h1, trivial⟩
  | dic kvs => obtain ⟨vs, h1, _⟩ := h; exact ⟨_, h1, trivial⟩
  | dit kvs => obtain ⟨vs, h1, _⟩ := h; exact ⟨_, h1, trivial⟩
theorem RelM.at_ (h : RelM C K G H M) {a : Addr} (ha : a ∈ G.mu) : ∃ (r : Nat) (o : MO), G.mu[r]? = some a ∧ M[r]? = some o ∧ RepO C K G H a o := by
  obtain ⟨r, hr, e⟩ := List.mem_iff_getElem.mp ha
  have hr' : r < M.length := by rw [← h.len]; exact hr
  have e1 : G.mu[r]? = some a := by rw [List.getElem?_eq_getElem hr, e]
  have e2 : M[r]? = some M[r] := List.getElem?_eq_getElem hr'
  exact ⟨r, M[r], e1, e2, h.ob r a _ e1 e2⟩
theorem RelM.ne (h : RelM C K G H M) {p : Addr} (hp : H p = none) : p ∉ G.mu := fun hx => by
  obtain ⟨r, o, _, _, q⟩ := h.at_ hx
  obtain ⟨u, e, _⟩ := q.kind
  rw [hp] at e; cases e
theorem RelM.nf (h : RelM C K G H M) {p : Addr} (hp : H p = none) : ¬ G.fz p := fun hx => by
  obtain ⟨xs, e⟩ := h.fzl p hx
  rw [hp] at e; cases e
theorem rd_laid {a p : Addr} {o u : HO} (hp : H p = none) (h : Rd H a u) : Rd (upd H p o) a u := by
  rcases h with h | ⟨q, h⟩
  · exact .inl (by rw [upd_ne (ne_of_none h hp)]; exact h)
  · exact .inr ⟨q, by rw [upd_ne (ne_of_none h hp)]; exact h⟩
theorem Ext.laid0 {p : Addr} {o : HO} (hp : H p = none) (hf : ¬ G.fz p) : Ext G H G (upd H p o) := by
  refine ⟨⟨[], by simp, by simp⟩, fun _ h => h, fun _ h => .inl h, fun a u h _ => ?_, fun a h => ?_, fun a xs h => rd_laid hp h, fun a u v h => ?_, fun a u h => ?_, fun a h => ?_⟩
  · rw [upd_ne (ne_of_none h hp)]; exact h
  · exact upd_ne fun z => hf (z ▸ h)
  · rw [upd_ne (ne_of_none h hp)]; exact h
  · rw [upd_ne (ne_of_none h hp)]; exact h
  · by_cases e : a = p
    · subst e; exact absurd hp h
    · rw [upd_ne e]; exact h
theorem Ext.freeze0 {p : Addr} {o : HO} (hp : H p = none) (hf : ¬ G.fz p) : Ext G H (G.freeze p) (upd H p o) := by
  have e := Ext.laid0 (o := o) hp hf
  exact ⟨e.mu, fun _ h => .inl h, fun a h => h.elim .inl fun z => .inr (by rw [z]; exact hp), e.keep, e.fl, e.tup, e.frz, e.own, e.there⟩
theorem Ext.push0 {p : Addr} {o : HO} (hp : H p = none) (hf : ¬ G.fz p) : Ext G H (G.push p) (upd H p o) := by
  have e := Ext.laid0 (o := o) hp hf
  exact ⟨⟨[p], rfl, fun a h => by rw [List.mem_singleton.mp h]; exact hp⟩, e.fz, e.nfz, e.keep, e.fl, e.tup, e.frz, e.own, e.there⟩
theorem RelM.laid {p : Addr} {o : HO} (h : RelM C K G H M) (hp : H p = none) : RelM C K G (upd H p o) M := by
  have e := Ext.laid0 (o := o) hp (h.nf hp)
  refine ⟨h.len, h.nd, h.nfz, fun r a u h1 h2 => ?_, fun a ha => ?_⟩
  · exact (h.ob r a u h1 h2).mono e.le fun v q => by rw [upd_ne (ne_of_none q hp)]; exact q
  · rw [e.fl a ha]; exact h.fzl a ha
theorem Le.freeze {p : Addr} : Le G H (G.freeze p) H := ⟨fun _ _ h => h, fun _ h => .inl h, fun _ _ => rfl, fun _ _ h => h, fun _ _ _ h => h, fun _ _ h => h⟩
theorem RelM.freeze {p : Addr} {xs : List V} (h : RelM C K G H M) (hp : H p = some (.lst xs)) (hm : p ∉ G.mu) : RelM C K (G.freeze p) H M := by
  refine ⟨h.len, h.nd, fun a ha z => ?_, fun r a u h1 h2 => ?_, fun a ha => ?_⟩
  · rcases z with z | z
    · exact h.nfz a ha z
    · subst z; exact hm ha
  · exact (h.ob r a u h1 h2).mono Le.freeze fun v q => q
  · rcases ha with ha | ha
    · exact h.fzl a ha
    · subst ha; exact ⟨xs, hp⟩
/-- a new object of the small heap -/
theorem RelM.push {p : Addr} {o : MO} (h : RelM C K G H M) (hm : p ∉ G.mu) (hf : ¬ G.fz p) (ho : RepO C K G H p o) : RelM C K (G.push p) H (M ++ [o]) := by
  have l : Le G H (G.push p) H := ⟨fun r a e => by
    show (G.mu ++ [p])[r]? = some a
    rw [List.getElem?_append_left (List.getElem?_eq_some_iff.mp e).1]; exact e, fun _ h => h, fun _ _ => rfl, fun _ _ h => h, fun _ _ _ h => h, fun _ _ h => h⟩
  refine ⟨by simp [Gh.push, h.len], ?_, fun a ha => ?_, fun r a u h1 h2 => ?_, h.fzl⟩
  · exact List.nodup_append.mpr ⟨h.nd, by simp, fun a ha b hb => by rw [List.mem_singleton.mp hb]; intro e; exact hm (e ▸ ha)⟩
  · rcases List.mem_append.mp ha with q | q
    · exact h.nfz a q
    · rw [List.mem_singleton.mp q]; exact hf
  · have h1 : (G.mu ++ [p])[r]? = some a := h1
    by_cases hr : r < G.mu.length
    · rw [List.getElem?_append_left hr] at h1
      rw [List.getElem?_append_left (by rw [← h.len]; exact hr)] at h2
      exact (h.ob r a u h1 h2).mono l fun v q => q
    · rw [List.getElem?_append_right (by omega)] at h1
      rw [List.getElem?_append_right (by rw [← h.len]; omega), ← h.len] at h2
      have e : r - G.mu.length = 0 := by
        have := (List.getElem?_eq_some_iff.mp h1).1
        simp at this; omega
      rw [e] at h1 h2
      simp at h1 h2
      subst h1; subst h2
      exact ho.mono l fun v q => q
end
end MP

set_option Elab.async false
set_option linter.all false
set_option maxRecDepth 100000
set_option maxHeartbeats 1000000
set_option autoImplicit false
/-! MP, part d: continuations; the operations -/
namespace MP
open PySem L2

/-- how an error's object lies: the fields' values ds of a class whose fields are called names -/
def ExcAt (C : Cl) (K : Frag) (exf : Nat → List Nat) (G : Gh) (H : Hp) (c : Nat) (ds : List D) (dx : Option Addr) : Prop :=
  match ds with
  | [] => True
  | _ => ∃ d fs, dx = some d ∧ H d = some (.xd fs) ∧ ∀ (i : Nat) f e, (exf c)[i]? = some f → ds[i]? = some e → ∃ v, fs.lookup (C.fnm f) = some v ∧ Rep K G H e v

/-- the program's tables -/
structure Tb where
  C : Cl
  exf : Nat → List Nat

section
variable (T : Tb) (K : Frag) (W : WX) (σ : St)
/-- what is wanted behind a result -/
def Kont {α β : Type} (G : Gh) (H : Hp) (r : Res α) (rep : Gh → Hp → MH → α → β → Prop) (Q : β → Hp → Prop) : Prop :=
  match r with
  | .ok a M' => ∀ G' H' b, Ext G H G' H' → RelM T.C K G' H' M' → rep G' H' M' a b → Q b H'
  | .exc c ds M' => ∀ G' H' dx, Ext G H G' H' → RelM T.C K G' H' M' → ExcAt T.C K T.exf G' H' c ds dx → W (.ref (T.C.cls c)) dx σ H'
  | .bad => False
end
section
variable {T : Tb} {K : Frag} {W : WX} {σ : St} {α β γ δ : Type} {G G1 : Gh} {H H1 : Hp} {M : MH}
theorem Kont.ext {r : Res α} {rep : Gh → Hp → MH → α → β → Prop} {Q : β → Hp → Prop} (h : Kont T K W σ G H r rep Q) (e : Ext G H G1 H1) : Kont T K W σ G1 H1 r rep Q := by
  cases r with
  | ok a M' => exact fun G' H' b e' m q => h G' H' b (e.trans e') m q
  | exc c ds M' => exact fun G' H' dx e' m q => h G' H' dx (e.trans e') m q
  | bad => exact h
theorem Kont.bind {r : Res α} {f : α → MH → Res γ} {rep : Gh → Hp → MH → γ → δ → Prop} {rep1 : Gh → Hp → MH → α → β → Prop} {Q : δ → Hp → Prop} {Q1 : β → Hp → Prop} (h : Kont T K W σ G H (r.bind f) rep Q)
    (k : ∀ a M1 G1 H1 b, r = .ok a M1 → Ext G H G1 H1 → RelM T.C K G1 H1 M1 → rep1 G1 H1 M1 a b → Kont T K W σ G1 H1 (f a M1) rep Q → Q1 b H1) : Kont T K W σ G H r rep1 Q1 := by
  cases r with
  | ok a M1 => exact fun G1 H1 b e m q => k a M1 G1 H1 b rfl e m q (Kont.ext h e)
  | exc c ds M1 => exact h
  | bad => exact h
theorem Kont.opt {o : Option α} {rep : Gh → Hp → MH → α → β → Prop} {Q : β → Hp → Prop} (h : Kont T K W σ G H (Res.opt o M) rep Q) : ∃ z, o = some z ∧ ∀ G' H' b, Ext G H G' H' → RelM T.C K G' H' M → rep G' H' M z b → Q b H' := by
  cases o with
  | none => exact h.elim
  | some z => exact ⟨z, rfl, h⟩
theorem Kont.optb {o : Option α} {f : α → MH → Res γ} {rep : Gh → Hp → MH → γ → δ → Prop} {Q : δ → Hp → Prop} (h : Kont T K W σ G H ((Res.opt o M).bind f) rep Q) : ∃ z, o = some z ∧ Kont T K W σ G H (f z M) rep Q := by
  cases o with
  | none => exact h.elim
  | some z => exact ⟨z, rfl, h⟩
end

/-- a value that may be read: also a list that may change later -/
inductive RepR (K : Frag) (G : Gh) (H : Hp) : D → V → Prop where
  | of {d : D} {v : V} : Rep K G H d v → RepR K G H d v
  | lst {ds : List D} {xs : List V} {a : Addr} : H a = some (.lst xs) → Reps K G H ds xs → RepR K G H (.lst ds) (.ref a)
abbrev repV (K : Frag) : Gh → Hp → MH → D → V → Prop := fun G H _ d v => Rep K G H d v
/-- what is wanted of a value's end -/
def Wants (T : Tb) (K : Frag) (G : Gh) (H : Hp) (M : MH) (z : D) (Q : VK) : Prop := ∀ G' H' b, Ext G H G' H' → RelM T.C K G' H' M → Rep K G' H' z b → Q b H'
/-- what is wanted of a new list's end: nobody has frozen it -/
def WantsL (T : Tb) (K : Frag) (G : Gh) (H : Hp) (M : MH) (l : List D) (Q : VK) : Prop := ∀ G' H' p xs, Ext G H G' H' → RelM T.C K G' H' M → H p = none → H' p = some (.lst xs) → p ∉ G'.mu → ¬ G'.fz p → Reps K G' H' l xs → Q (.ref p) H'
section
variable {T : Tb} {K : Frag} {G : Gh} {H : Hp} {M : MH} {Q : VK} {z : D}
theorem Wants.here (h : Wants T K G H M z Q) (hM : RelM T.C K G H M) {b : V} (r : Rep K G H z b) : Q b H := h G H b .refl hM r
theorem Wants.tup {ds : List D} {xs : List V} (h : Wants T K G H M (.tup ds) Q) (hM : RelM T.C K G H M) (r : Reps K G H ds xs) : ∀ p, H p = none → Q (.ref p) (upd H p (.tup xs)) := fun p hp => by
  have e := Ext.laid0 (o := .tup xs) hp (hM.nf hp)
  exact h G _ _ e (hM.laid hp) (.tup (SqT.of upd_same) (r.mono e))
theorem WantsL.lst {ds : List D} {xs : List V} (h : WantsL T K G H M ds Q) (hM : RelM T.C K G H M) (r : Reps K G H ds xs) : ∀ p, H p = none → Q (.ref p) (upd H p (.lst xs)) := fun p hp => by
  have e := Ext.laid0 (o := .lst xs) hp (hM.nf hp)
  exact h G _ p xs e (hM.laid hp) hp upd_same (hM.ne hp) (hM.nf hp) (r.mono e)
/-- a new list is frozen -/
theorem Wants.lstL {l : List D} (h : Wants T K G H M (.lst l) Q) : WantsL T K G H M l Q := fun G' H' p xs e m hp hp' hm hf r => by
  refine h (G'.freeze p) H' (.ref p) ⟨e.mu, fun a q => .inl (e.fz a q), fun a q => ?_, e.keep, e.fl, e.tup, e.frz, e.own, e.there⟩ (m.freeze hp' hm) (.lst (.inr rfl) hp' (r.le Le.freeze))
  rcases q with q | q
  · exact e.nfz a q
  · exact .inr (by rw [q]; exact hp)
theorem Wants.lst {ds : List D} {xs : List V} (h : Wants T K G H M (.lst ds) Q) (hM : RelM T.C K G H M) (r : Reps K G H ds xs) : ∀ p, H p = none → Q (.ref p) (upd H p (.lst xs)) := h.lstL.lst hM r
end

/-! ### readings of values -/
section
variable {K : Frag} {G : Gh} {H : Hp}
theorem RepR.int {i : Int} {v : V} (h : RepR K G H (.int i) v) : v = .int i := by
  cases h with
  | of h => cases h; rfl
theorem RepR.bl {i : Bool} {v : V} (h : RepR K G H (.bl i) v) : v = .bl i := by
  cases h with
  | of h => cases h; rfl
theorem RepR.str {i : Str} {v : V} (h : RepR K G H (.str i) v) : v = .str i := by
  cases h with
  | of h => cases h; rfl
theorem RepR.non {v : V} (h : RepR K G H .non v) : v = .non := by
  cases h with
  | of h => cases h; rfl
theorem RepR.tup {l : List D} {v : V} (h : RepR K G H (.tup l) v) : ∃ a xs, v = .ref a ∧ SqT K H a xs ∧ Reps K G H l xs := by
  cases h with
  | of h => cases h with
    | tup h r => exact ⟨_, _, rfl, h, r⟩
theorem RepR.lstH {l : List D} {v : V} (h : RepR K G H (.lst l) v) : ∃ a xs, v = .ref a ∧ H a = some (.lst xs) ∧ Reps K G H l xs := by
  cases h with
  | of h => cases h with
    | lst _ h r => exact ⟨_, _, rfl, h, r⟩
  | lst h r => exact ⟨_, _, rfl, h, r⟩
theorem RepR.scr {l : List Int} {v : V} (h : RepR K G H (.scr l) v) : ∃ a, v = .ref a ∧ SqL K H a (l.map V.int) := by
  cases h with
  | of h => cases h with
    | scr h => exact ⟨_, rfl, h.sq⟩
theorem RepR.ref {r : Nat} {v : V} (h : RepR K G H (.ref r) v) : ∃ a, v = .ref a ∧ G.mu[r]? = some a := by
  cases h with
  | of h => cases h with
    | ref h => exact ⟨_, rfl, h⟩
mutual
theorem Rep.dp : ∀ {d : D} {v : V}, Rep K G H d v → d.py.canLay0 = true → Dp K H v d.py
  | _, _, .non, _ => .non
  | _, _, .bl b, _ => .bl b
  | _, _, .int i, _ => .int i
  | _, _, .str x, _ => .str x
  | _, _, .tup h r, q => .tup h (Reps.dp r (by simpa only [D.py, PyData.canLay0] using q))
  | _, _, .lst _ h r, q => .lst (SqL.of h) (Reps.dp r (by simpa only [D.py, PyData.canLay0] using q))
  | _, _, .ref h, q => by simp [D.py, PyData.canLay0] at q
  | _, _, .scr h, q => by simp [D.py, PyData.canLay0] at q
theorem Reps.dp : ∀ {d : List D} {v : List V}, Reps K G H d v → PyData.canLayAll0 (D.pys d) = true → DpAll K H v (D.pys d)
  | _, _, .nil, _ => .nil
  | _, _, .cons r t, q => by
    simp only [D.pys, PyData.canLayAll0, Bool.and_eq_true] at q
    exact .cons (Rep.dp r q.1) (Reps.dp t q.2)
end
theorem RepR.dp {d : D} {v : V} (h : RepR K G H d v) (q : d.py.canLay0 = true) : Dp K H v d.py := by
  cases h with
  | of h => exact h.dp q
  | lst h r => exact .lst (SqL.of h) (r.dp (by simpa only [D.py, PyData.canLay0] using q))
theorem sh_lay {d : D} (h : d.sh = true) : d.py.canLay0 = true := SeqAt.canLay_of_shaped h
theorem RepR.flat {d : D} {v : V} (h : RepR K G H d v) (f : d.flat = true) : flatV v = true := by
  cases d with
  | non => rw [h.non]; rfl
  | bl b => rw [h.bl]; rfl
  | int i => rw [h.int]; rfl
  | str x => rw [h.str]; rfl
  | _ => simp [D.flat] at f
theorem RepR.feq {d e : D} {v w : V} (h : RepR K G H d v) (h2 : RepR K G H e w) (f : d.flat = true) (f2 : e.flat = true) : eqV v w = d.feq e := by
  cases d with
  | non => rw [h.non]; cases e with
    | non => rw [h2.non]; rfl
    | bl b => rw [h2.bl]; rfl
    | int i => rw [h2.int]; rfl
    | str x => rw [h2.str]; rfl
    | _ => simp [D.flat] at f2
  | bl b => rw [h.bl]; cases e with
    | non => rw [h2.non]; rfl
    | bl b => rw [h2.bl]; rfl
    | int i => rw [h2.int]; rfl
    | str x => rw [h2.str]; rfl
    | _ => simp [D.flat] at f2
  | int i => rw [h.int]; cases e with
    | non => rw [h2.non]; rfl
    | bl b => rw [h2.bl]; rfl
    | int i => rw [h2.int]; rfl
    | str x => rw [h2.str]; rfl
    | _ => simp [D.flat] at f2
  | str x => rw [h.str]; cases e with
    | non => rw [h2.non]; rfl
    | bl b => rw [h2.bl]; rfl
    | int i => rw [h2.int]; rfl
    | str x => rw [h2.str]; rfl
    | _ => simp [D.flat] at f2
  | _ => simp [D.flat] at f
theorem Reps.flat {ds : List D} {vs : List V} (h : Reps K G H ds vs) (f : ds.all D.flat = true) : vs.all flatV = true := by
  induction ds generalizing vs with
  | nil => cases h; rfl
  | cons d ds ih => cases h with
    | cons r t =>
      rw [List.all_cons, Bool.and_eq_true] at f ⊢
      exact ⟨(RepR.of r).flat f.1, ih t f.2⟩
theorem Reps.inV {ds : List D} {vs : List V} (h : Reps K G H ds vs) (f : ds.all D.flat = true) {x : D} {v : V} (hx : RepR K G H x v) (fx : x.flat = true) : inV v vs = ds.any fun y => y.feq x := by
  induction ds generalizing vs with
  | nil => cases h; rfl
  | cons d ds ih => cases h with
    | cons r t =>
      rw [List.all_cons, Bool.and_eq_true] at f
      unfold L2.inV at ih ⊢
      rw [List.any_cons, List.any_cons, ih t f.2, (RepR.of r).feq hx f.1 fx]
theorem Reps.ints {ds : List D} {vs : List V} (h : Reps K G H ds vs) : ∀ {ns : List Int}, ds.mapM D.int? = some ns → vs = ns.map V.int := by
  induction ds generalizing vs with
  | nil => intro ns e; cases h; simp at e; subst e; rfl
  | cons d ds ih => cases h with
    | cons r t =>
      intro ns e
      rw [List.mapM_cons] at e
      cases d with
      | int i =>
        cases q : ds.mapM D.int? with
        | none => rw [q] at e; simp [D.int?] at e
        | some ms =>
          rw [q] at e
          simp [D.int?] at e
          subst e
          cases r
          rw [ih t q]; rfl
      | _ => simp [D.int?] at e
theorem Reps.strs {ds : List D} {vs : List V} (h : Reps K G H ds vs) : ∀ {ns : List Str}, ds.mapM D.str? = some ns → vs = ns.map V.str := by
  induction ds generalizing vs with
  | nil => intro ns e; cases h; simp at e; subst e; rfl
  | cons d ds ih => cases h with
    | cons r t =>
      intro ns e
      rw [List.mapM_cons] at e
      cases d with
      | str i =>
        cases q : ds.mapM D.str? with
        | none => rw [q] at e; simp [D.str?] at e
        | some ms =>
          rw [q] at e
          simp [D.str?] at e
          subst e
          cases r
          rw [ih t q]; rfl
      | _ => simp [D.str?] at e
theorem Reps.bls {ds : List D} {vs : List V} (h : Reps K G H ds vs) : ∀ {ns : List Bool}, ds.mapM D.bool? = some ns → vs = ns.map V.bl := by
  induction ds generalizing vs with
  | nil => intro ns e; cases h; simp at e; subst e; rfl
  | cons d ds ih => cases h with
    | cons r t =>
      intro ns e
      rw [List.mapM_cons] at e
      cases d with
      | bl i =>
        cases q : ds.mapM D.bool? with
        | none => rw [q] at e; simp [D.bool?] at e
        | some ms =>
          rw [q] at e
          simp [D.bool?] at e
          subst e
          cases r
          rw [ih t q]; rfl
      | _ => simp [D.bool?] at e
theorem Reps.repl {ds : List D} {vs : List V} (h : Reps K G H ds vs) (n : Nat) : Reps K G H (List.replicate n ds).flatten (List.replicate n vs).flatten := by
  induction n with
  | zero => exact .nil
  | succ n ih => rw [List.replicate_succ, List.replicate_succ, List.flatten_cons, List.flatten_cons]; exact h.append ih
theorem Reps.cut {ds : List D} {vs : List V} (h : Reps K G H ds vs) (lo hi : Option Int) : Reps K G H (cut ds lo hi) (cutV vs lo hi) := by
  unfold MP.cut cutV
  rw [h.length]
  exact (h.drop _).take _
theorem Reps.atI {ds : List D} {vs : List V} {i : Int} {d : D} (h : Reps K G H ds vs) (e : atI ds i = some d) : ∃ v, atI vs i = some v ∧ Rep K G H d v := by
  unfold L2.atI at e ⊢
  rw [h.length] at e
  cases q : ixN vs.length i with
  | none => rw [q] at e; cases e
  | some j => rw [q] at e; exact h.get e
end

/-! ### the operations of two values -/
/-- a relation of the layer serves an operation of two values -/
def Serves2 (T : Tb) (K : Frag) (r : R2) (g : D → D → Option D) : Prop := ∀ (G : Gh) (H : Hp) (M : MH) (x y z : D) (v w : V) (Q : VK), RelM T.C K G H M → RepR K G H x v → RepR K G H y w → g x y = some z → Wants T K G H M z Q → r v w H Q
theorem Serves2.int {T : Tb} {K : Frag} {g : D → D → Option D} {C : Int → Int → Prop} {f : Int → Int → V} (h : ∀ x y z, g x y = some z → ∃ i j, x = .int i ∧ y = .int j ∧ C i j ∧ ∀ (G : Gh) (H : Hp), Rep K G H z (f i j)) : Serves2 T K (rI C f) g := by
  intro G H M x y z v w Q hM hx hy e k
  obtain ⟨i, j, rfl, rfl, c, r⟩ := h x y z e
  rw [hx.int, hy.int]
  exact ⟨i, j, rfl, rfl, c, k.here hM (r G H)⟩
theorem Serves2.int0 {T : Tb} {K : Frag} {g : D → D → Option D} {f : Int → Int → V} (h : ∀ x y z, g x y = some z → ∃ i j, x = .int i ∧ y = .int j ∧ ∀ (G : Gh) (H : Hp), Rep K G H z (f i j)) : Serves2 T K (rI0 f) g := by
  intro G H M x y z v w Q hM hx hy e k
  obtain ⟨i, j, rfl, rfl, r⟩ := h x y z e
  rw [hx.int, hy.int]
  exact ⟨i, j, rfl, rfl, k.here hM (r G H)⟩
end MP

set_option Elab.async false
set_option linter.all false
set_option maxRecDepth 100000
set_option maxHeartbeats 2000000
set_option autoImplicit false
/-! MP, part e: the operations of two values, by the layer's rules -/
namespace MP
open PySem PySem.Spec PyProof.Rows L2

theorem mulOk_ok {i j : Int} (h : mulOk i j = true) : IntMulOk i j := by
  unfold mulOk at h
  simp only [Bool.or_eq_true, decide_eq_true_eq] at h
  rcases h with (h | h) | h
  · exact CMul.ok (.inl (by omega))
  · exact CMul.ok (.inr (by omega))
  · exact CMulW.ok h
theorem intBits_le (x : Int) : Builtin.Int.intBits x ≤ x.natAbs.log2 + 1 := by
  unfold Builtin.Int.intBits
  split <;> omega
def Op2.bin : Op2 → Option Operator
  | .add => some .Add
  | .sub => some .Sub
  | .mul => some .Mult
  | .fdiv => some .FloorDiv
  | .mod => some .Mod
  | .pow => some .Pow
  | .band => some .BitAnd
  | .bor => some .BitOr
  | .bxor => some .BitXor
  | .shl => some .LShift
  | .shr => some .RShift
  | _ => none
def Op2.cmp : Op2 → Option CmpOp
  | .eq => some .Eq
  | .ne => some .NotEq
  | .lt => some .Lt
  | .le => some .LtE
  | .gt => some .Gt
  | .ge => some .GtE
  | .in_ => some .In
  | .nin => some .NotIn
  | _ => none
section
variable {X : Cx} {T : Tb}
theorem op_mulA : OpR X (binaryOp .Mult) (rI (fun i j => mulOk i j = true) fun i j => .int (i * j)) := opI fun _ _ _ _ _ _ _ hc q => mul_int q (mulOk_ok hc)
theorem op_shlA : OpR X (binaryOp .LShift) (rI (fun i j => 0 ≤ j ∧ i.natAbs.log2 + j.toNat < 1000000) fun i j => .int (i * 2 ^ j.toNat)) := opI fun i j _ _ _ _ _ hc q => by
  have h1 := intBits_le i
  have h2 := hc.1
  have h3 := hc.2
  exact lshift_int hc.1 (by omega) q
/-- + -/
def rAddA (K : Frag) : R2 := fun x y H Q => (rI0 (fun i j => .int (i + j)) x y H Q ∨ ∃ i j, x = .str i ∧ y = .str j ∧ i.length + j.length ≤ sizeLine ∧ Q (.str (i ++ j)) H) ∨ (rCatA K x y H Q ∨ rCat x y H Q)
theorem op_addA : OpR X (binaryOp .Add) (rAddA X.K) := (OpR.or (OpR.or op_add op_add_str) (OpR.or op_catA op_cat))
theorem sv_add {K : Frag} : Serves2 T K (rAddA K) (op2 .add) := by
  intro G H M x y z v w Q hM hx hy e k
  cases x <;> cases y <;> simp [op2] at e
  · subst e
    rw [hx.int, hy.int]
    exact .inl (.inl ⟨_, _, rfl, rfl, k.here hM (.int _)⟩)
  · obtain ⟨c, e⟩ := e
    subst e
    rw [hx.str, hy.str]
    exact .inl (.inr ⟨_, _, rfl, rfl, c, k.here hM (.str _)⟩)
  · obtain ⟨c, e⟩ := e
    subst e
    obtain ⟨a, xs, rfl, ha, ra⟩ := hx.tup
    obtain ⟨b, ys, rfl, hb, rb⟩ := hy.tup
    have la := ra.length
    have lb := rb.length
    refine .inr (.inl ⟨a, b, xs, ys, rfl, rfl, ha, hb, by omega, fun q => ?_, fun _ q => ?_, fun _ _ => k.tup hM (ra.append rb)⟩)
    · subst q
      have e0 := List.length_eq_zero_iff.mp (by simpa using la)
      subst e0
      exact k.here hM (.tup hb rb)
    · subst q
      have e0 := List.length_eq_zero_iff.mp (by simpa using lb)
      subst e0
      rw [List.append_nil] at k
      exact k.here hM (.tup ha ra)
  · obtain ⟨c, e⟩ := e
    subst e
    obtain ⟨a, xs, rfl, ha, ra⟩ := hx.lstH
    obtain ⟨b, ys, rfl, hb, rb⟩ := hy.lstH
    have la := ra.length
    have lb := rb.length
    exact .inr (.inr ⟨a, b, xs, ys, rfl, rfl, ha, hb, by omega, k.lst hM (ra.append rb)⟩)
def rMulA : R2 := fun x y H Q => rI (fun i j => mulOk i j = true) (fun i j => .int (i * j)) x y H Q ∨ rRep x y H Q
theorem op_mulB : OpR X (binaryOp .Mult) rMulA := OpR.or op_mulA op_rep
theorem sv_mul {K : Frag} : Serves2 T K rMulA (op2 .mul) := by
  intro G H M x y z v w Q hM hx hy e k
  cases x <;> cases y <;> simp [op2] at e
  · obtain ⟨c, e⟩ := e
    subst e
    rw [hx.int, hy.int]
    exact .inl ⟨_, _, rfl, rfl, c, k.here hM (.int _)⟩
  · obtain ⟨⟨c1, c2, c3⟩, e⟩ := e
    subst e
    obtain ⟨a, xs, rfl, ha, ra⟩ := hx.lstH
    rw [hy.int]
    exact .inr ⟨a, _, xs, rfl, rfl, ha, c1, c2, by rw [← ra.length]; exact c3, k.lst hM (ra.repl _)⟩
theorem op2_bin {hu : X.A.units + 65 < cLine} : ∀ (o : Op2) (op : Operator), o.bin = some op → ∃ r, OpR X (binaryOp op) r ∧ Serves2 T X.K r (op2 o) := by
  intro o op e
  cases o <;> simp [Op2.bin] at e <;> subst e
  · exact ⟨_, op_addA, sv_add⟩
  · refine ⟨_, op_sub, Serves2.int0 fun x y z e => ?_⟩
    cases x <;> cases y <;> simp [op2] at e
    subst e; exact ⟨_, _, rfl, rfl, fun _ _ => .int _⟩
  · exact ⟨_, op_mulB, sv_mul⟩
  · refine ⟨_, op_fdivW, Serves2.int fun x y z e => ?_⟩
    cases x <;> cases y <;> simp [op2] at e
    obtain ⟨c, e⟩ := e
    subst e; exact ⟨_, _, rfl, rfl, c, fun _ _ => .int _⟩
  · refine ⟨_, op_mod, Serves2.int fun x y z e => ?_⟩
    cases x <;> cases y <;> simp [op2] at e
    obtain ⟨c, e⟩ := e
    subst e; exact ⟨_, _, rfl, rfl, c, fun _ _ => .int _⟩
  · refine ⟨_, op_pow, Serves2.int fun x y z e => ?_⟩
    cases x <;> cases y <;> simp [op2] at e
    obtain ⟨c, e⟩ := e
    subst e; exact ⟨_, _, rfl, rfl, c, fun _ _ => .int _⟩
  · refine ⟨_, op_and, Serves2.int0 fun x y z e => ?_⟩
    cases x <;> cases y <;> simp [op2] at e
    subst e; exact ⟨_, _, rfl, rfl, fun _ _ => .int _⟩
  · refine ⟨_, op_or, Serves2.int0 fun x y z e => ?_⟩
    cases x <;> cases y <;> simp [op2] at e
    subst e; exact ⟨_, _, rfl, rfl, fun _ _ => .int _⟩
  · refine ⟨_, op_xor, Serves2.int0 fun x y z e => ?_⟩
    cases x <;> cases y <;> simp [op2] at e
    subst e; exact ⟨_, _, rfl, rfl, fun _ _ => .int _⟩
  · refine ⟨_, op_shlA, Serves2.int fun x y z e => ?_⟩
    cases x <;> cases y <;> simp [op2] at e
    obtain ⟨c, e⟩ := e
    subst e; exact ⟨_, _, rfl, rfl, c, fun _ _ => .int _⟩
  · refine ⟨_, op_shr, Serves2.int fun x y z e => ?_⟩
    cases x <;> cases y <;> simp [op2] at e
    obtain ⟨c, e⟩ := e
    subst e; exact ⟨_, _, rfl, rfl, c, fun _ _ => .int _⟩
/-! ### comparisons -/
def rEqA (K : Frag) : R2 := fun x y H Q => rEq x y H Q ∨ rEqD K x y H Q
def rNeA (K : Frag) : R2 := fun x y H Q => rNe x y H Q ∨ rNeD K x y H Q
theorem eq_sv {K : Frag} {G : Gh} {H : Hp} {x y : D} {v w : V} {c : Bool} (hx : RepR K G H x v) (hy : RepR K G H y w) (e : x.eq? y = some c) :
    (scal v w = true ∧ decide (v = w) = c) ∨ ∃ d f, Dp K H v d ∧ Dp K H w f ∧ SeqAt.shaped d = true ∧ SeqAt.shaped f = true ∧ PyData.eqv d f = c := by
  have gen : (if x.sh && y.sh then some (x.eqv y) else none) = some c → ∃ d f, Dp K H v d ∧ Dp K H w f ∧ SeqAt.shaped d = true ∧ SeqAt.shaped f = true ∧ PyData.eqv d f = c := fun e => by
    by_cases h : (x.sh && y.sh) = true
    · rw [if_pos h] at e
      obtain ⟨h1, h2⟩ := Bool.and_eq_true_iff.mp h
      exact ⟨_, _, hx.dp (sh_lay h1), hy.dp (sh_lay h2), h1, h2, Option.some.inj e⟩
    · rw [if_neg h] at e; cases e
  cases x <;> cases y <;> first | exact .inr (gen e) | skip
  all_goals
    rw [hx.str, hy.str]
    refine .inl ⟨rfl, ?_⟩
    rw [← Option.some.inj e, Bool.eq_iff_iff]
    simp
theorem sv_eq {K : Frag} : Serves2 T K (rEqA K) (op2 .eq) := by
  intro G H M x y z v w Q hM hx hy e k
  obtain ⟨c, ec, ez⟩ : ∃ c, x.eq? y = some c ∧ D.bl c = z := by
    cases q : x.eq? y with
    | none => simp [op2, q] at e
    | some c => simp [op2, q] at e; exact ⟨c, rfl, e⟩
  subst ez
  rcases eq_sv hx hy ec with ⟨h1, h2⟩ | ⟨d, f, h1, h2, h3, h4, h5⟩
  · exact .inl ⟨h1, by rw [h2]; exact k.here hM (.bl _)⟩
  · exact .inr ⟨d, f, h1, h2, h3, h4, by rw [h5]; exact k.here hM (.bl _)⟩
theorem sv_ne {K : Frag} : Serves2 T K (rNeA K) (op2 .ne) := by
  intro G H M x y z v w Q hM hx hy e k
  obtain ⟨c, ec, ez⟩ : ∃ c, x.eq? y = some c ∧ D.bl (!c) = z := by
    cases q : x.eq? y with
    | none => simp [op2, q] at e
    | some c => simp [op2, q] at e; exact ⟨c, rfl, e⟩
  subst ez
  rcases eq_sv hx hy ec with ⟨h1, h2⟩ | ⟨d, f, h1, h2, h3, h4, h5⟩
  · exact .inl ⟨h1, by rw [h2]; exact k.here hM (.bl _)⟩
  · exact .inr ⟨d, f, h1, h2, h3, h4, by rw [h5]; exact k.here hM (.bl _)⟩
def rSign (neg : Bool) : R2 := fun x y H Q => ∃ (c : Nat) (z : Str), x = .str ⟨#[c]⟩ ∧ y = .str z ∧ Q (.bl (if neg then !decide (c ∈ z.cps.toList) else decide (c ∈ z.cps.toList))) H
def rInDp (K : Frag) (neg : Bool) : R2 := fun x y H Q => ∃ d ds, Dp K H x d ∧ Dp K H y (.list ds) ∧ SeqAt.shaped d = true ∧ SeqAt.shaped (.list ds) = true ∧ Q (.bl (if neg then !(ds.any fun z => PyData.eqv z d) else ds.any fun z => PyData.eqv z d)) H
def rInA (K : Frag) (neg : Bool) : R2 := fun x y H Q => rSign neg x y H Q ∨ (rIn K neg x y H Q ∨ rInDp K neg x y H Q)
theorem one_sign {x : Str} (h : x.length = 1) : x = ⟨#[x.cps.getD 0 0]⟩ := by
  obtain ⟨⟨l⟩⟩ := x
  cases l with
  | nil => simp [Str.length] at h
  | cons a l => cases l with
    | nil => rfl
    | cons b l => simp [Str.length] at h
theorem pys_map (l : List D) : D.pys l = l.map D.py := by
  induction l with
  | nil => rfl
  | cons d l ih => rw [D.pys, ih]; rfl
theorem in_sv {K : Frag} {G : Gh} {H : Hp} {x y : D} {v w : V} {c : Bool} (neg : Bool) {Q : VK} (hx : RepR K G H x v) (hy : RepR K G H y w) (e : x.in? y = some c) (q : Q (.bl (if neg then !c else c)) H) : rInA K neg v w H Q := by
  have flt : ∀ l, (x.flat && l.all D.flat) = true → (l.any fun y => y.feq x) = c → (∃ a xs, w = .ref a ∧ (SqL K H a xs ∨ SqT K H a xs) ∧ Reps K G H l xs) → rInA K neg v w H Q := by
    intro l h ec ⟨a, xs, ew, hs, r⟩
    obtain ⟨h1, h2⟩ := Bool.and_eq_true_iff.mp h
    subst ew
    refine .inr (.inl ⟨a, xs, rfl, hs, hx.flat h1, r.flat h2, ?_⟩)
    rw [r.inV h2 hx h1, ec]
    exact q
  cases y with
  | str y =>
    cases x with
    | str x =>
      have e : (if x.length = 1 then some (decide (x.cps.getD 0 0 ∈ y.cps.toList)) else none) = some c := e
      by_cases h1 : x.length = 1
      · rw [if_pos h1] at e
        rw [hx.str, hy.str, one_sign h1]
        exact .inl ⟨_, _, rfl, rfl, by rw [Option.some.inj e]; exact q⟩
      · rw [if_neg h1] at e; cases e
    | _ => simp [D.in?] at e
  | tup l =>
    have e : (if x.flat && l.all D.flat then some (l.any fun y => y.feq x) else none) = some c := by
      cases x <;> exact e
    by_cases h : (x.flat && l.all D.flat) = true
    · rw [if_pos h] at e
      obtain ⟨a, xs, ew, hs, r⟩ := hy.tup
      exact flt l h (Option.some.inj e) ⟨a, xs, ew, .inr hs, r⟩
    · rw [if_neg h] at e; cases e
  | lst l =>
    have e : (if x.flat && l.all D.flat then some (l.any fun y => y.feq x) else if x.sh && (D.lst l).sh then some (l.any fun y => y.eqv x) else none) = some c := by
      cases x <;> exact e
    by_cases h : (x.flat && l.all D.flat) = true
    · rw [if_pos h] at e
      obtain ⟨a, xs, ew, hs, r⟩ := hy.lstH
      exact flt l h (Option.some.inj e) ⟨a, xs, ew, .inl (SqL.of hs), r⟩
    · rw [if_neg h] at e
      by_cases h : (x.sh && (D.lst l).sh) = true
      · rw [if_pos h] at e
        obtain ⟨h1, h2⟩ := Bool.and_eq_true_iff.mp h
        refine .inr (.inr ⟨_, D.pys l, hx.dp (sh_lay h1), hy.dp (sh_lay h2), h1, h2, ?_⟩)
        have ea : ((D.pys l).any fun z => PyData.eqv z x.py) = c := by
          rw [← Option.some.inj e, pys_map, List.any_map]; rfl
        rw [ea]; exact q
      · rw [if_neg h] at e; cases e
  | _ => cases x <;> simp [D.in?] at e
theorem sv_in {K : Frag} : Serves2 T K (rInA K false) (op2 .in_) := by
  intro G H M x y z v w Q hM hx hy e k
  obtain ⟨c, ec, ez⟩ : ∃ c, x.in? y = some c ∧ D.bl c = z := by
    cases q : x.in? y with
    | none => simp [op2, q] at e
    | some c => simp [op2, q] at e; exact ⟨c, rfl, e⟩
  subst ez
  exact in_sv false hx hy ec (k.here hM (.bl _))
theorem sv_nin {K : Frag} : Serves2 T K (rInA K true) (op2 .nin) := by
  intro G H M x y z v w Q hM hx hy e k
  obtain ⟨c, ec, ez⟩ : ∃ c, x.in? y = some c ∧ D.bl (!c) = z := by
    cases q : x.in? y with
    | none => simp [op2, q] at e
    | some c => simp [op2, q] at e; exact ⟨c, rfl, e⟩
  subst ez
  exact in_sv true hx hy ec (k.here hM (.bl _))
theorem op_inA (hu : X.A.units + 65 < cLine) : OpR X (compareOp .In) (rInA X.K false) := OpR.or op_in_sign (OpR.or op_in_seq (op_inD hu))
theorem op_ninA (hu : X.A.units + 65 < cLine) : OpR X (compareOp .NotIn) (rInA X.K true) := OpR.or op_notIn_sign (OpR.or op_notIn_seq (op_notInD hu))
theorem op2_cmp (hu : X.A.units + 65 < cLine) : ∀ (o : Op2) (op : CmpOp), o.cmp = some op → ∃ r, OpR X (compareOp op) r ∧ Serves2 T X.K r (op2 o) := by
  intro o op e
  cases o <;> simp [Op2.cmp] at e <;> subst e
  · exact ⟨_, OpR.or op_eq (op_eqD (by omega)), sv_eq⟩
  · exact ⟨_, OpR.or op_ne (op_neD (by omega)), sv_ne⟩
  · refine ⟨_, op_lt, Serves2.int0 fun x y z e => ?_⟩
    cases x <;> cases y <;> simp [op2] at e
    subst e; exact ⟨_, _, rfl, rfl, fun _ _ => .bl _⟩
  · refine ⟨_, op_le, Serves2.int0 fun x y z e => ?_⟩
    cases x <;> cases y <;> simp [op2] at e
    subst e; exact ⟨_, _, rfl, rfl, fun _ _ => .bl _⟩
  · refine ⟨_, op_gt, Serves2.int0 fun x y z e => ?_⟩
    cases x <;> cases y <;> simp [op2] at e
    subst e; exact ⟨_, _, rfl, rfl, fun _ _ => .bl _⟩
  · refine ⟨_, op_ge, Serves2.int0 fun x y z e => ?_⟩
    cases x <;> cases y <;> simp [op2] at e
    subst e; exact ⟨_, _, rfl, rfl, fun _ _ => .bl _⟩
  · exact ⟨_, op_inA hu, sv_in⟩
  · exact ⟨_, op_ninA hu, sv_nin⟩
end
end MP

set_option Elab.async false
set_option linter.all false
set_option maxRecDepth 100000
set_option maxHeartbeats 2000000
set_option autoImplicit false
/-! MP, part f: what is asked of a context; judgements; shapes of the syntax; operations -/
namespace MP
open PySem PySem.Spec PyProof.Rows L2

theorem _root_.L2.PE.weak {X : Cx} {e : Expr} {t t' : TE} (h : PE X e t) (w : ∀ σ H Q, t' σ H Q → t σ H Q) : PE X e t' := ⟨fun pins s σ H Q I q => h.run pins s σ H Q I (w σ H Q q)⟩
theorem _root_.L2.PT.weak {X : Cx} {e : Expr} {t t' : TT} (h : PT X e t) (w : ∀ σ H Q, t' σ H Q → t σ H Q) : PT X e t' := ⟨fun pins s σ H Q I q => h.run pins s σ H Q I (w σ H Q q)⟩
theorem _root_.L2.PS.weak {X : Cx} {e : Stmt} {t t' : TS} (h : PS X e t) (w : ∀ D σ H, t' D σ H → t D σ H) : PS X e t' := ⟨fun pins s σ H D I q => h.run pins s σ H D I (w D σ H q)⟩
theorem _root_.L2.PSs.weak {X : Cx} {e : List Stmt} {t t' : TS} (h : PSs X e t) (w : ∀ D σ H, t' D σ H → t D σ H) : PSs X e t' := ⟨fun pins s σ H D I q => h.run pins s σ H D I (w D σ H q)⟩
theorem _root_.L2.PA.weak {X : Cx} {e : List Expr} {t t' : TA} (h : PA X e t) (w : ∀ σ H Q, t' σ H Q → t σ H Q) : PA X e t' := ⟨fun pos pins s σ H Q I q => h.run pos pins s σ H Q I (w σ H Q q)⟩

/-! ### the program's tables -/
/-- names: free the built-ins that are used, fns the functions that are called by a name, ar their arity, gls the constants, cls the classes, fnm the fields and methods -/
structure Pg where
  free : List Str
  fns : List (Option Str)
  ar : List Nat
  gls : List Str
  cls : List Str
  fnm : List Str
/-- a block's names -/
structure SC where
  N : List Str
  names : List (Str × NameKind)
/-- the promise of the f-th function -/
def spM (T : Tb) (K : Frag) (R : Env) (f k : Nat) : Sp := fun vs H Q E => ∃ G M ds, RelM T.C K G H M ∧ Reps K G H ds vs ∧ ds.length = k ∧ Kont T K (fun c d _ H => E c d H) [] G H (R.call f ds M) (repV K) Q
structure PrOk (T : Tb) (P : Pg) (R : Env) (adr : Nat → Addr) (n : Nat) (prog : Program) (w : World) (K : Frag) (mg : Str → Option Value) (base : Heap) : Prop where
  free : ∀ x ∈ P.free, mg x = none
  gl : ∀ (g : Nat) x d, P.gls[g]? = some x → R.glob[g]? = some d → ∃ u v, mg x = some u ∧ RelV v u ∧ ∀ G H, Rep K G H d v
  ar : ∀ (f : Nat) ds M, P.ar[f]? ≠ some ds.length → R.call f ds M = .bad
  fn : ∀ (f k : Nat), P.ar[f]? = some k → ∃ fd ps, ps.length = k ∧ Binds K fd ps [] ∧ FnOk prog w K mg base (L2.CX prog w) n (adr f) fd ps (spM T K R f k)
  kp : ∀ (f k : Nat), P.ar[f]? = some k → PySem.W.keepIn K (.ref (adr f)) = true
  nm : ∀ (f : Nat) x, P.fns[f]? = some (some x) → mg x = some (.ref (adr f))
/-- a context of a block whose names are S -/
structure XOk (S : SC) (n : Nat) (X : Cx) (W : WX) : Prop where
  N : X.N = S.N
  nd : S.N.Nodup
  sc : ∀ x k, S.names.lookup x = some k → X.env.scope.names.lookup x = some k ∨ (k = .free ∧ X.env.scope.names.lookup x = some .cell)
  fn : ∀ x, S.names.lookup x = some .cell → X.fn x = true
  calm : X.calm = true
  room : Room n X.A
  tk : Takes X W
theorem XOk.units {S : SC} {n : Nat} {X : Cx} {W : WX} (h : XOk S n X W) : X.A.units + 65 < cLine := by have := h.room.un; omega
theorem XOk.gl {S : SC} {n : Nat} {X : Cx} {W : WX} (h : XOk S n X W) {x : Str} (e : S.names.lookup x = some .globalImplicit) : Gl X x := by
  rcases h.sc x _ e with q | ⟨q, _⟩
  · exact q
  · cases q
def isLoc (S : SC) (x : Str) : Bool := match S.names.lookup x with
  | some .local => true
  | some .cell => true
  | _ => false
def isVis (S : SC) (x : Str) : Bool := match S.names.lookup x with
  | some .local => true
  | some .cell => true
  | some .free => true
  | _ => false
def isGl (S : SC) (x : Str) : Bool := match S.names.lookup x with
  | some .globalImplicit => true
  | _ => false
theorem isGl_ok {S : SC} {x : Str} (h : isGl S x = true) : S.names.lookup x = some .globalImplicit := by
  unfold isGl at h; split at h
  · assumption
  · cases h
theorem XOk.vis {S : SC} {n : Nat} {X : Cx} {W : WX} (h : XOk S n X W) {x : Str} (e : isVis S x = true) : Vis X.env.scope x := by
  unfold isVis at e
  split at e
  · rename_i q
    rcases h.sc x _ q with r | ⟨r, _⟩
    · exact .inl r
    · cases r
  · rename_i q
    rcases h.sc x _ q with r | ⟨r, _⟩
    · exact .inr (.inl r)
    · cases r
  · rename_i q
    rcases h.sc x _ q with r | ⟨_, r⟩
    · exact .inr (.inr r)
    · exact .inr (.inl r)
  · cases e
theorem XOk.loc {S : SC} {n : Nat} {X : Cx} {W : WX} (h : XOk S n X W) {x : Str} (e : isLoc S x = true) : Loc X.env.scope x ∧ (X.fn x = true ∨ X.env.scope.names.lookup x = some .local) := by
  unfold isLoc at e
  split at e
  · rename_i q
    rcases h.sc x _ q with r | ⟨r, _⟩
    · exact ⟨.inl r, .inr r⟩
    · cases r
  · rename_i q
    rcases h.sc x _ q with r | ⟨r, _⟩
    · exact ⟨.inr r, .inl (h.fn x q)⟩
    · cases r
  · cases e

/-! ### judgements -/
section
variable (T : Tb) (K : Frag) (W : WX)
def repB (σ : L2.St) (s : Sl) (b : Bool) : Gh → Hp → MH → D → V → Prop := fun G H _ d v => Rep K G H d v ∨ (b = true ∧ ∃ i l, d = .own i ∧ s[i]? = some (.own l) ∧ σ[i]? = some (some v))
def tE (ev : Sl → MH → Res D) (b : Bool) : TE := fun σ H Q => ∃ G s M, RelM T.C K G H M ∧ RelS K G H σ s ∧ Kont T K W σ G H (ev s M) (repB K σ s b) Q
def tEs (ev : Sl → MH → Res (List D)) : TA := fun σ H Q => ∃ G s M, RelM T.C K G H M ∧ RelS K G H σ s ∧ Kont T K W σ G H (ev s M) (fun G H _ d v => Reps K G H d v) Q
def tT (ev : Sl → MH → Res Bool) : TT := fun σ H Q => ∃ G s M, RelM T.C K G H M ∧ RelS K G H σ s ∧ Kont T K W σ G H (ev s M) (fun _ _ _ d v => d = v) Q
/-- a new list -/
def repL (H : Hp) : Gh → Hp → MH → D → V → Prop := fun G' H' _ d v => ∃ l p xs, d = .lst l ∧ v = .ref p ∧ H p = none ∧ H' p = some (.lst xs) ∧ p ∉ G'.mu ∧ ¬ G'.fz p ∧ Reps K G' H' l xs
def tL (ev : Sl → MH → Res D) : TE := fun σ H Q => ∃ G s M, RelM T.C K G H M ∧ RelS K G H σ s ∧ (∀ d M', ev s M = .ok d M' → ∃ l, d = .lst l) ∧ Kont T K W σ G H (ev s M) (repL K H) Q
end
section
variable {T : Tb} {K : Frag} {W : WX} {σ : L2.St} {s : Sl} {b : Bool} {G G' : Gh} {H H' : Hp} {M M' : MH}
theorem repB.mono (e : Ext G H G' H') {d : D} {v : V} (h : repB K σ s b G H M d v) : repB K σ s b G' H' M' d v := by
  rcases h with h | h
  · exact .inl (h.mono e)
  · exact .inr h
theorem repB_rs (hM : RelM T.C K G H M) (hS : RelS K G H σ s) {d : D} {v : V} (h : repB K σ s b G H M d v) : RepR K G H (rs s M d) v := by
  rcases h with h | ⟨_, i, l, rfl, e1, e2⟩
  · cases h with
    | ref e =>
      rename_i r a
      have hr : r < M.length := by rw [← hM.len]; exact (List.getElem?_eq_some_iff.mp e).1
      have em : M[r]? = some M[r] := List.getElem?_eq_getElem hr
      have ho := hM.ob r a _ e em
      have h : Rep K G H (.ref r) (.ref a) := .ref e
      show RepR K G H (match M[r]? with
        | some (.lst l) => .lst l
        | _ => .ref r) _
      rw [em]
      cases q : M[r] with
      | lst l =>
        rw [q] at ho
        obtain ⟨xs, h1, r1⟩ := ho
        exact .lst h1 r1
      | ins c fs => exact .of h
      | dic kvs => exact .of h
      | dit kvs => exact .of h
    | non => exact .of .non
    | bl b => exact .of (.bl b)
    | int i => exact .of (.int i)
    | str x => exact .of (.str x)
    | tup h r => exact .of (.tup h r)
    | lst h h2 r => exact .of (.lst h h2 r)
    | scr h => exact .of (.scr h)
  · obtain ⟨a, xs, h1, h2, h3, _, _⟩ := hS.own i l e1
    rw [h1] at e2
    cases e2
    show RepR K G H (match s[i]? with
        | some (.own l) => .lst l
        | _ => .own i) _
    rw [e1]
    exact .lst h2 h3
theorem repV_rs (hM : RelM T.C K G H M) (hS : RelS K G H σ s) {d : D} {v : V} (h : Rep K G H d v) : RepR K G H (rs s M d) v := repB_rs (b := false) hM hS (.inl h)
theorem tL.toE {ev : Sl → MH → Res D} {σ : L2.St} {H : Hp} {Q : VK} (h : ∃ G s M, RelM T.C K G H M ∧ RelS K G H σ s ∧ (∀ d M', ev s M = .ok d M' → ∃ l, d = .lst l) ∧ Kont T K W σ G H (ev s M) (repB K σ s b) Q) : tL T K W ev σ H Q := by
  obtain ⟨G, s, M, hM, hS, hl, h⟩ := h
  refine ⟨G, s, M, hM, hS, hl, ?_⟩
  cases q : ev s M with
  | ok d M' =>
    rw [q] at h
    intro G' H' v e m ⟨l, p, xs, ed, ev', hp, hp', hm, hf, r⟩
    subst ed; subst ev'
    have w : Wants T K G H M' (.lst l) Q := fun G2 H2 v2 e2 m2 r2 => h G2 H2 v2 e2 m2 (.inl r2)
    exact w.lstL G' H' p xs e m hp hp' hm hf r
  | exc c ds M' => rw [q] at h; exact h
  | bad => rw [q] at h; exact h
end

/-! ### shapes -/
def exName : Expr → Option Str | .Name x _ => some x | _ => none
def exConst : Expr → Option Const | .Constant c _ _ => some c | _ => none
def exBin : Expr → Option (Expr × Operator × Expr) | .BinOp a o b _ => some (a, o, b) | _ => none
def exUn : Expr → Option (UnaryOp × Expr) | .UnaryOp o a _ => some (o, a) | _ => none
def exCmp1 : Expr → Option (Expr × CmpOp × Expr) | .Compare a [o] [b] _ => some (a, o, b) | _ => none
def exCmp2 : Expr → Option (Expr × CmpOp × Expr × CmpOp × Expr) | .Compare a [o, o'] [b, c] _ => some (a, o, b, o', c) | _ => none
def exCall : Expr → Option (Str × List Expr) | .Call (.Name x _) es [] _ => some (x, es) | _ => none
def exMeth : Expr → Option (Expr × Str × List Expr) | .Call (.Attribute o m ap) es [] cp => if ap.endLine == cp.line then some (o, m, es) else none | _ => none
def exAttr : Expr → Option (Expr × Str) | .Attribute o f _ => some (o, f) | _ => none
def exSub : Expr → Option (Expr × Expr) | .Subscript a b _ => some (a, b) | _ => none
def exSlice : Expr → Option (Expr × Option Expr × Option Expr) | .Subscript a (.Slice lo hi none _) _ => some (a, lo, hi) | _ => none
def exRev : Expr → Option Expr | .Subscript a (.Slice none none (some (.UnaryOp .USub (.Constant (.int 1) _ _) _)) _) _ => some a | _ => none
def exTup : Expr → Option (List Expr) | .Tuple es _ _ => some es | _ => none
def exList : Expr → Option (List Expr) | .List es _ => some es | _ => none
def exIf : Expr → Option (Expr × Expr × Expr) | .IfExp t a b _ => some (t, a, b) | _ => none
def exAnd : Expr → Option (List Expr) | .BoolOp .And es _ => some es | _ => none
def exOr : Expr → Option (List Expr) | .BoolOp .Or es _ => some es | _ => none
def exComp : Expr → Option (Expr × Expr × Expr × List Expr × Scope) | .ListComp elt [⟨tg, it, ifs, 0⟩] sc _ => some (elt, tg, it, ifs, sc) | _ => none
def exStar : Expr → Bool | .Starred _ _ => true | _ => false
theorem exName_ok {e : Expr} {x : Str} (h : exName e = some x) : ∃ p, e = .Name x p := by
  unfold exName at h; split at h
  · cases h; exact ⟨_, rfl⟩
  · cases h
theorem exConst_ok {e : Expr} {c : Const} (h : exConst e = some c) : ∃ k p, e = .Constant c k p := by
  unfold exConst at h; split at h
  · cases h; exact ⟨_, _, rfl⟩
  · cases h
theorem exBin_ok {e a b : Expr} {o : Operator} (h : exBin e = some (a, o, b)) : ∃ p, e = .BinOp a o b p := by
  unfold exBin at h; split at h
  · cases h; exact ⟨_, rfl⟩
  · cases h
theorem exUn_ok {e a : Expr} {o : UnaryOp} (h : exUn e = some (o, a)) : ∃ p, e = .UnaryOp o a p := by
  unfold exUn at h; split at h
  · cases h; exact ⟨_, rfl⟩
  · cases h
theorem exCmp1_ok {e a b : Expr} {o : CmpOp} (h : exCmp1 e = some (a, o, b)) : ∃ p, e = .Compare a [o] [b] p := by
  unfold exCmp1 at h; split at h
  · cases h; exact ⟨_, rfl⟩
  · cases h
theorem exCmp2_ok {e a b c : Expr} {o o' : CmpOp} (h : exCmp2 e = some (a, o, b, o', c)) : ∃ p, e = .Compare a [o, o'] [b, c] p := by
  unfold exCmp2 at h; split at h
  · cases h; exact ⟨_, rfl⟩
  · cases h
theorem exCall_ok {e : Expr} {x : Str} {es : List Expr} (h : exCall e = some (x, es)) : ∃ p q, e = .Call (.Name x p) es [] q := by
  unfold exCall at h; split at h
  · cases h; exact ⟨_, _, rfl⟩
  · cases h
theorem exMeth_ok {e o : Expr} {m : Str} {es : List Expr} (h : exMeth e = some (o, m, es)) : ∃ p q, e = .Call (.Attribute o m p) es [] q ∧ (p.endLine == q.line) = true := by
  unfold exMeth at h; split at h
  · split at h
    · cases h; exact ⟨_, _, rfl, by assumption⟩
    · cases h
  · cases h
theorem exAttr_ok {e o : Expr} {m : Str} (h : exAttr e = some (o, m)) : ∃ p, e = .Attribute o m p := by
  unfold exAttr at h; split at h
  · cases h; exact ⟨_, rfl⟩
  · cases h
theorem exSub_ok {e a b : Expr} (h : exSub e = some (a, b)) : ∃ p, e = .Subscript a b p := by
  unfold exSub at h; split at h
  · cases h; exact ⟨_, rfl⟩
  · cases h
theorem exSlice_ok {e a : Expr} {lo hi : Option Expr} (h : exSlice e = some (a, lo, hi)) : ∃ p q, e = .Subscript a (.Slice lo hi none p) q := by
  unfold exSlice at h; split at h
  · cases h; exact ⟨_, _, rfl⟩
  · cases h
theorem exRev_ok {e a : Expr} (h : exRev e = some a) : ∃ k p1 p2 p3 p, e = .Subscript a (.Slice none none (some (.UnaryOp .USub (.Constant (.int 1) k p1) p2)) p3) p := by
  unfold exRev at h; split at h
  · cases h; exact ⟨_, _, _, _, _, rfl⟩
  · cases h
theorem exTup_ok {e : Expr} {es : List Expr} (h : exTup e = some es) : ∃ k p, e = .Tuple es k p := by
  unfold exTup at h; split at h
  · cases h; exact ⟨_, _, rfl⟩
  · cases h
theorem exList_ok {e : Expr} {es : List Expr} (h : exList e = some es) : ∃ p, e = .List es p := by
  unfold exList at h; split at h
  · cases h; exact ⟨_, rfl⟩
  · cases h
theorem exIf_ok {e t a b : Expr} (h : exIf e = some (t, a, b)) : ∃ p, e = .IfExp t a b p := by
  unfold exIf at h; split at h
  · cases h; exact ⟨_, rfl⟩
  · cases h
theorem exAnd_ok {e : Expr} {es : List Expr} (h : exAnd e = some es) : ∃ p, e = .BoolOp .And es p := by
  unfold exAnd at h; split at h
  · cases h; exact ⟨_, rfl⟩
  · cases h
theorem exOr_ok {e : Expr} {es : List Expr} (h : exOr e = some es) : ∃ p, e = .BoolOp .Or es p := by
  unfold exOr at h; split at h
  · cases h; exact ⟨_, rfl⟩
  · cases h
theorem exComp_ok {e elt tg it : Expr} {ifs : List Expr} {sc : Scope} (h : exComp e = some (elt, tg, it, ifs, sc)) : ∃ p, e = .ListComp elt [⟨tg, it, ifs, 0⟩] sc p := by
  unfold exComp at h; split at h
  · cases h; exact ⟨_, rfl⟩
  · cases h
theorem star_cons {e : Expr} {es : List Expr} {env : PySem.Env} (h : exStar e = false) : starEach (e :: es) env = (false, eval e env) :: starEach es env := by
  cases e <;> first | rfl | (simp [exStar] at h)
def plainEs (es : List Expr) : Bool := es.all fun e => !exStar e
theorem star_any {es : List Expr} {env : PySem.Env} {p : Pos} (h : plainEs es = true) : (backTo p (starEach es env)).any (·.1) = false := by
  induction es with
  | nil => rfl
  | cons e es ih =>
    unfold plainEs at h
    rw [List.all_cons, Bool.and_eq_true] at h
    have he : exStar e = false := by simpa using h.1
    rw [star_cons he]
    show ((false || _) : Bool) = false
    rw [Bool.false_or]
    exact ih h.2
def exSet : Expr → Bool | .Set _ _ _ => true | _ => false
def exSl : Expr → Bool | .Slice _ _ _ _ => true | _ => false
theorem noSet {b : Expr} {op : CmpOp} (h : exSet b = false) : behindInMarks op b = false := by
  cases b <;> first | rfl | (simp [exSet] at h)
theorem noSet2 {b c : Expr} {o o' : CmpOp} (h : exSet c = false) : lastMarks [o, o'] [b, c] = false := noSet h
theorem noSl {b : Expr} (h : exSl b = false) : PlainIx b := by
  cases b <;> first | (intro _ _; rfl) | (simp [exSl] at h)
/-- an expression that is no super() -/
def notSuper : Expr → Bool
  | .Call (.Name id _) [] [] _ => id != ("super" : Str)
  | _ => true
theorem attr_base {o : Expr} {f : Str} {env : PySem.Env} {whole : Sem Value} (h : notSuper o = true) : attributeBase o f env whole = whole := by
  unfold attributeBase
  unfold notSuper at h
  split
  · rename_i id p pos
    have h2 : (id != ("super" : Str)) = true := h
    simp only [h2, Bool.true_or, if_true]
  · rfl
end MP

set_option Elab.async false
set_option linter.all false
set_option maxRecDepth 100000
set_option maxHeartbeats 2000000
set_option autoImplicit false
/-! MP, part g: expressions, form by form -/
namespace MP
open PySem PySem.Spec PyProof.Rows L2

theorem Res.bind_assoc {α β γ : Type} (r : Res α) (f : α → MH → Res β) (g : β → MH → Res γ) : (r.bind f).bind g = r.bind fun a M => (f a M).bind g := by cases r <;> rfl
section
variable {T : Tb} {P : Pg} {R : Env} {adr : Nat → Addr} {n : Nat} {X : Cx} {S : SC} {W : WX} {b : Bool}

/-! ### names and constants -/
theorem se_var {e : Expr} {i : Nat} {x : Str} (xo : XOk S n X W) (he : exName e = some x) (hi : S.N[i]? = some x) (hv : isVis S x = true) (hd : (x == ("__debug__" : Str)) = false) (hcd : (x == ("__classdict__" : Str)) = false) :
    PE X e (tE T X.K W (fun s M => evE R b s (.var i) M) b) := by
  obtain ⟨p, rfl⟩ := exName_ok he
  refine (pe_var (i := i) (by rw [xo.N]; exact hi) (xo.vis hv) hd hcd).weak fun σ H Q ⟨G, s, M, hM, hS, h⟩ => ?_
  simp only [evE] at h
  split at h
  · rename_i d e
    obtain ⟨v, h1, h2⟩ := hS.val i d e
    exact ⟨v, h1, h G H v .refl hM (.inl h2)⟩
  · exact h.elim
theorem se_bor {e : Expr} {i : Nat} {x : Str} (xo : XOk S n X W) (he : exName e = some x) (hi : S.N[i]? = some x) (hv : isVis S x = true) (hd : (x == ("__debug__" : Str)) = false) (hcd : (x == ("__classdict__" : Str)) = false) :
    PE X e (tE T X.K W (fun s M => evE R b s (.bor i) M) b) := by
  obtain ⟨p, rfl⟩ := exName_ok he
  refine (pe_var (i := i) (by rw [xo.N]; exact hi) (xo.vis hv) hd hcd).weak fun σ H Q ⟨G, s, M, hM, hS, h⟩ => ?_
  simp only [evE] at h
  split at h
  · rename_i l e
    split at h
    · rename_i hb
      obtain ⟨a, xs, h1, h2, h3, _, _⟩ := hS.own i l e
      exact ⟨.ref a, h1, h G H _ .refl hM (.inr ⟨hb, i, l, rfl, e, h1⟩)⟩
    · exact h.elim
  · exact h.elim
def constD : Const → Option D
  | .none => some .non
  | .bool b => some (.bl b)
  | .int i => some (.int i)
  | .str x => some (.str x)
  | _ => none
theorem se_cst {e : Expr} {c : Const} {d : D} (he : exConst e = some c) (hc : constD c = some d) : PE X e (tE T X.K W (fun s M => evE R b s (.cst d) M) b) := by
  obtain ⟨k, p, rfl⟩ := exConst_ok he
  have go : ∀ v, PE X (.Constant c k p) (tC v) → (∀ G H, Rep X.K G H d v) → PE X (.Constant c k p) (tE T X.K W (fun s M => evE R b s (.cst d) M) b) := fun v hp hr => by
    refine hp.weak fun σ H Q ⟨G, s, M, hM, hS, h⟩ => ?_
    simp only [evE] at h
    exact h G H v .refl hM (.inl (hr G H))
  cases c <;> simp [constD] at hc <;> subst hc
  · exact go .non pe_non fun _ _ => .non
  · exact go _ pe_bl fun _ _ => .bl _
  · exact go _ pe_int fun _ _ => .int _
  · exact go _ pe_str fun _ _ => .str _
theorem se_glob {e : Expr} {g : Nat} {x : Str} (pr : PrOk T P R adr n X.prog X.w X.K X.mg X.base) (xo : XOk S n X W) (he : exName e = some x) (hg : P.gls[g]? = some x) (hv : isGl S x = true) (hd : (x == ("__debug__" : Str)) = false) :
    PE X e (tE T X.K W (fun s M => evE R b s (.glob g) M) b) := by
  obtain ⟨p, rfl⟩ := exName_ok he
  cases q : R.glob[g]? with
  | none =>
    refine ⟨fun pins s σ H Q I ⟨G, s', M, hM, hS, h⟩ => ?_⟩
    simp only [evE, q] at h
    exact h.elim
  | some d =>
    obtain ⟨u, v, h1, h2, h3⟩ := pr.gl g x d hg q
    refine (pe_glob (xo.gl (isGl_ok hv)) h1 h2 hd).weak fun σ H Q ⟨G, s, M, hM, hS, h⟩ => ?_
    simp only [evE, q] at h
    exact h G H v .refl hM (.inl (h3 G H))

/-! ### operations of two values -/
theorem se_op2 {e a c : Expr} {r : R2} {g : D → D → Option D} {ea ec : Sl → MH → Res D} (rule : ∀ ta tb, PE X a ta → PE X c tb → PE X e (tOp r ta tb)) (sv : Serves2 T X.K r g) (ha : PE X a (tE T X.K W ea true)) (hc : PE X c (tE T X.K W ec true)) :
    PE X e (tE T X.K W (fun s M => (ea s M).bind fun x M => (ec s M).bind fun y M => .opt (g (rs s M x) (rs s M y)) M) b) := by
  refine (rule _ _ ha hc).weak fun σ H Q ⟨G, s, M, hM, hS, h⟩ => ⟨G, s, M, hM, hS, h.bind fun x M1 G1 H1 v _ e1 m1 rx h1 => ⟨G1, s, M1, m1, hS.mono e1, h1.bind fun y M2 G2 H2 w _ e2 m2 ry h2 => ?_⟩⟩
  obtain ⟨z, ez, k⟩ := h2.opt
  exact sv G2 H2 M2 _ _ z v w Q m2 (repB_rs m2 ((hS.mono e1).mono e2) (rx.mono (M := M1) e2)) (repB_rs m2 ((hS.mono e1).mono e2) ry) ez fun G' H' b' e m r => k G' H' b' e m (.inl r)
/-- a method of a text by one value -/
theorem se_m1 {e a c : Expr} {r : V → List V → Hp → VK → Prop} {g : D → D → Option D} {ea ec : Sl → MH → Res D} (rule : ∀ ta tb, PE X a ta → PE X c tb → PE X e (tM1 r ta tb)) (sv : Serves2 T X.K (fun x y H Q => r x [y] H Q) g)
    (ha : PE X a (tE T X.K W ea true)) (hc : PE X c (tE T X.K W ec true)) :
    PE X e (tE T X.K W (fun s M => (ea s M).bind fun x M => if (rs s M x).isStr then (ec s M).bind fun y M => .opt (g (rs s M x) (rs s M y)) M else .bad) b) := by
  refine (rule _ _ ha hc).weak fun σ H Q ⟨G, s, M, hM, hS, h⟩ => ⟨G, s, M, hM, hS, h.bind fun x M1 G1 H1 v _ e1 m1 rx h1 => ?_⟩
  by_cases hx : (rs s M1 x).isStr = true
  · rw [if_pos hx] at h1
    obtain ⟨z, hz⟩ : ∃ z, rs s M1 x = .str z := by
      cases q : rs s M1 x <;> rw [q] at hx <;> simp [D.isStr] at hx
      exact ⟨_, rfl⟩
    have hv := repB_rs m1 (hS.mono e1) rx
    rw [hz] at hv
    refine ⟨⟨z, hv.str⟩, G1, s, M1, m1, hS.mono e1, h1.bind fun y M2 G2 H2 w _ e2 m2 ry h2 => ?_⟩
    obtain ⟨z, ez, k⟩ := h2.opt
    exact sv G2 H2 M2 _ _ z v w Q m2 (repB_rs m2 ((hS.mono e1).mono e2) (rx.mono (M := M1) e2)) (repB_rs m2 ((hS.mono e1).mono e2) ry) ez fun G' H' b' e m r => k G' H' b' e m (.inl r)
  · rw [if_neg hx] at h1; exact h1.elim
/-! ### operations of one value -/
def Serves1 (T : Tb) (K : Frag) (r : V → Hp → VK → Prop) (g : D → Option D) : Prop := ∀ (G : Gh) (H : Hp) (M : MH) (x z : D) (v : V) (Q : VK), RelM T.C K G H M → RepR K G H x v → g x = some z → Wants T K G H M z Q → r v H Q
theorem se_op1 {e a : Expr} {r : V → Hp → VK → Prop} {g : D → Option D} {ea : Sl → MH → Res D} (rule : ∀ ta, PE X a ta → PE X e (tUn r ta)) (sv : Serves1 T X.K r g) (ha : PE X a (tE T X.K W ea true)) :
    PE X e (tE T X.K W (fun s M => (ea s M).bind fun x M => .opt (g (rs s M x)) M) b) := by
  refine (rule _ ha).weak fun σ H Q ⟨G, s, M, hM, hS, h⟩ => ⟨G, s, M, hM, hS, h.bind fun x M1 G1 H1 v _ e1 m1 rx h1 => ?_⟩
  obtain ⟨z, ez, k⟩ := h1.opt
  exact sv G1 H1 M1 _ z v Q m1 (repB_rs m1 (hS.mono e1) rx) ez fun G' H' b' e m r => k G' H' b' e m (.inl r)

/-! ### truth -/
theorem truth_ok {K : Frag} {G : Gh} {H : Hp} {d : D} {v : V} {k : Bool} (h : RepR K G H d v) (e : d.truth = some k) : TruV K v H k := by
  cases d with
  | non => rw [h.non]; exact (Option.some.inj e).symm
  | bl b => rw [h.bl]; exact (Option.some.inj e).symm
  | int i => rw [h.int]; exact (Option.some.inj e).symm
  | str x =>
    rw [h.str]
    simp [D.truth] at e
    exact ⟨e.1, by rw [← e.2]⟩
  | tup l =>
    obtain ⟨a, xs, rfl, h1, r⟩ := h.tup
    refine .inr (.inl ⟨xs, h1, ?_⟩)
    rw [← Option.some.inj e]
    cases r <;> rfl
  | lst l =>
    obtain ⟨a, xs, rfl, h1, r⟩ := h.lstH
    refine .inl ⟨xs, SqL.of h1, ?_⟩
    rw [← Option.some.inj e]
    cases r <;> rfl
  | _ => simp [D.truth] at e
/-- a test by its value's truth -/
theorem st_e {e : Expr} {ea : Sl → MH → Res D} (he : ∀ whole, isTrue e X.env whole = (do let v ← whole; standAt e.pos; holding [v] (truthy v))) (ha : PE X e (tE T X.K W ea true)) :
    PT X e (tT T X.K W (fun s M => (ea s M).bind fun x M => .opt (rs s M x).truth M)) := by
  refine (pt_truth ha he).weak fun σ H Q ⟨G, s, M, hM, hS, h⟩ => ⟨G, s, M, hM, hS, h.bind fun x M1 G1 H1 v _ e1 m1 rx h1 => ?_⟩
  obtain ⟨z, ez, k⟩ := h1.opt
  exact ⟨z, truth_ok (repB_rs m1 (hS.mono e1) rx) ez, k G1 H1 z .refl m1 rfl⟩
/-- a comparison as a test -/
theorem st_op2 {e a c : Expr} {r : R2} {o : Op2} {g : D → D → Option D} {ea ec : Sl → MH → Res D} (rule : ∀ ta tb, PE X a ta → PE X c tb → PT X e (tTest (tOp r ta tb))) (sv : Serves2 T X.K r g) (hb : ∀ x y z, g x y = some z → ∃ k, z = .bl k)
    (ha : PE X a (tE T X.K W ea true)) (hc : PE X c (tE T X.K W ec true)) :
    PT X e (tT T X.K W (fun s M => ((ea s M).bind fun x M => (ec s M).bind fun y M => .opt (g (rs s M x) (rs s M y)) M).bind fun x M => .opt (rs s M x).truth M)) := by
  refine (rule _ _ ha hc).weak fun σ H Q ⟨G, s, M, hM, hS, h⟩ => ?_
  simp only [Res.bind_assoc] at h
  refine ⟨G, s, M, hM, hS, h.bind fun x M1 G1 H1 v _ e1 m1 rx h1 => ⟨G1, s, M1, m1, hS.mono e1, h1.bind fun y M2 G2 H2 w _ e2 m2 ry h2 => ?_⟩⟩
  obtain ⟨z, ez, k⟩ := h2.optb
  obtain ⟨c, rfl⟩ := hb _ _ _ ez
  refine sv G2 H2 M2 _ _ _ v w _ m2 (repB_rs m2 ((hS.mono e1).mono e2) (rx.mono (M := M1) e2)) (repB_rs m2 ((hS.mono e1).mono e2) ry) ez fun G' H' b' e m r => ?_
  cases r
  exact ⟨c, rfl, k G' H' c e m rfl⟩
end
end MP

set_option Elab.async false
set_option linter.all false
set_option maxRecDepth 100000
set_option maxHeartbeats 2000000
set_option autoImplicit false
/-! MP, part h: more forms of expressions -/
namespace MP
open PySem PySem.Spec PyProof.Rows L2

section
variable {T : Tb} {P : Pg} {R : Env} {adr : Nat → Addr} {n : Nat} {X : Cx} {S : SC} {W : WX} {b : Bool}

theorem tE.up {ev : Sl → MH → Res D} {e : Expr} (h : PE X e (tE T X.K W ev false)) : PE X e (tE T X.K W ev b) := h.weak fun σ H Q ⟨G, s, M, hM, hS, k⟩ => ⟨G, s, M, hM, hS, by
  cases q : ev s M with
  | ok d M' =>
    rw [q] at k
    exact fun G' H' v e m r => k G' H' v e m (r.elim .inl fun z => absurd z.1 (by simp))
  | exc c ds M' => rw [q] at k; exact k
  | bad => rw [q] at k; exact k⟩
/-! ### argument lists, tuples, displays -/
theorem sa_nil : PA X [] (tEs T X.K W fun s M => evEs R s .nil M) := pa_nil.weak fun σ H Q ⟨G, s, M, hM, hS, h⟩ => by
  simp only [evEs] at h
  exact h G H [] .refl hM .nil
theorem sa_cons {e : Expr} {es : List Expr} {m : ME} {ms : MEs} (hs : exStar e = false) (ha : PE X e (tE T X.K W (fun s M => evE R false s m M) false)) (hr : PA X es (tEs T X.K W fun s M => evEs R s ms M)) :
    PA X (e :: es) (tEs T X.K W fun s M => evEs R s (.cons m ms) M) := by
  refine (pa_cons ha hr (star_cons hs)).weak fun σ H Q ⟨G, s, M, hM, hS, h⟩ => ?_
  simp only [evEs] at h
  refine ⟨G, s, M, hM, hS, h.bind fun x M1 G1 H1 v _ e1 m1 rx h1 => ⟨G1, s, M1, m1, hS.mono e1, h1.bind fun ds M2 G2 H2 vs _ e2 m2 rs h2 => ?_⟩⟩
  have rx : Rep X.K G1 H1 x v := rx.elim id fun z => absurd z.1 (by simp)
  exact h2 G2 H2 _ .refl m2 (.cons (rx.mono e2) rs)
theorem se_tup {e : Expr} {es : List Expr} {ms : MEs} (he : exTup e = some es) (ha : PA X es (tEs T X.K W fun s M => evEs R s ms M)) : PE X e (tE T X.K W (fun s M => evE R b s (.tup ms) M) b) := by
  obtain ⟨k, p, rfl⟩ := exTup_ok he
  refine (pe_tup ha).weak fun σ H Q ⟨G, s, M, hM, hS, h⟩ => ?_
  simp only [evE] at h
  refine ⟨G, s, M, hM, hS, h.bind fun ds M1 G1 H1 vs _ e1 m1 r h1 => ?_⟩
  by_cases hl : ds.length ≤ sizeLine
  · rw [if_pos hl] at h1
    have w : Wants T X.K G1 H1 M1 (.tup ds) Q := fun G2 H2 v2 e2 m2 r2 => h1 G2 H2 v2 e2 m2 (.inl r2)
    exact ⟨by rw [← r.length]; exact hl, w.tup m1 r⟩
  · rw [if_neg hl] at h1; exact h1.elim
theorem sl_disp {e : Expr} {es : List Expr} {ms : MEs} (he : exList e = some es) (ha : PA X es (tEs T X.K W fun s M => evEs R s ms M)) : PE X e (tL T X.K W (fun s M => evE R b s (.disp ms) M)) := by
  obtain ⟨p, rfl⟩ := exList_ok he
  refine (pe_lst ha).weak fun σ H Q ⟨G, s, M, hM, hS, _, h⟩ => ?_
  simp only [evE] at h
  refine ⟨G, s, M, hM, hS, h.bind fun ds M1 G1 H1 vs _ e1 m1 r h1 => ?_⟩
  by_cases hl : ds.length ≤ sizeLine
  · rw [if_pos hl] at h1
    refine ⟨by rw [← r.length]; exact hl, ?_⟩
    have w : WantsL T X.K G1 H1 M1 ds Q := fun G2 H2 p xs e2 m2 hp hp' hm hf r => h1 G2 H2 _ e2 m2 ⟨ds, p, xs, rfl, rfl, by
      cases q : H p with
      | none => rfl
      | some o => exact absurd hp (e1.there p (some_ne q)), hp', hm, hf, r⟩
    exact w.lst m1 r
  · rw [if_neg hl] at h1; exact h1.elim
theorem tL.e {ev : Sl → MH → Res D} {e : Expr} (h : PE X e (tL T X.K W ev)) (hl : ∀ s M d M', ev s M = .ok d M' → ∃ l, d = .lst l) : PE X e (tE T X.K W ev b) := h.weak fun σ H Q ⟨G, s, M, hM, hS, k⟩ => tL.toE ⟨G, s, M, hM, hS, hl s M, k⟩
/-! ### if, and, or, chains -/
theorem se_ite {e t a c : Expr} {mt : MT} {ma mc : ME} (he : exIf e = some (t, a, c)) (ht : PT X t (tT T X.K W fun s M => evT R s mt M)) (ha : PE X a (tE T X.K W (fun s M => evE R false s ma M) false)) (hc : PE X c (tE T X.K W (fun s M => evE R false s mc M) false)) :
    PE X e (tE T X.K W (fun s M => evE R b s (.ite mt ma mc) M) b) := by
  obtain ⟨p, rfl⟩ := exIf_ok he
  refine tE.up ((pe_ifExp ht ha hc).weak fun σ H Q ⟨G, s, M, hM, hS, h⟩ => ?_)
  simp only [evE] at h
  refine ⟨G, s, M, hM, hS, h.bind fun k M1 G1 H1 k' _ e1 m1 r h1 => ?_⟩
  subst r
  cases k with
  | true => exact ⟨G1, s, M1, m1, hS.mono e1, h1⟩
  | false => exact ⟨G1, s, M1, m1, hS.mono e1, h1⟩
theorem evE_up {R : Env} {s : Sl} {m : ME} {M : MH} : True := trivial
theorem se_and1 {e : Expr} {es : List Expr} {ms : MEs} {pos : Pos} (ha : PE X e (tE T X.K W (fun s M => evE R false s (match ms with | .cons m .nil => m | _ => .bor 0) M) false)) (hms : ∃ m, ms = .cons m .nil) :
    PE X (.BoolOp .And [e] pos) (tE T X.K W (fun s M => evAnd R s ms M) false) ∧ PE X (.BoolOp .Or [e] pos) (tE T X.K W (fun s M => evOr R s ms M) false) := by
  obtain ⟨m, rfl⟩ := hms
  refine ⟨(pe_one ha).weak fun σ H Q h => ?_, (pe_one ha).weak fun σ H Q h => ?_⟩
  · simpa only [evAnd] using h
  · simpa only [evOr] using h
theorem se_and {e e2 : Expr} {es : List Expr} {m m2 : ME} {ms : MEs} {pos : Pos} (ha : PE X e (tE T X.K W (fun s M => evE R false s m M) false)) (hr : PE X (.BoolOp .And (e2 :: es) pos) (tE T X.K W (fun s M => evAnd R s (.cons m2 ms) M) false)) :
    PE X (.BoolOp .And (e :: e2 :: es) pos) (tE T X.K W (fun s M => evAnd R s (.cons m (.cons m2 ms)) M) false) := by
  refine (pe_andT ha hr).weak fun σ H Q ⟨G, s, M, hM, hS, h⟩ => ?_
  simp only [evAnd] at h
  refine ⟨G, s, M, hM, hS, h.bind fun x M1 G1 H1 v _ e1 m1 rx h1 => ?_⟩
  have rx : Rep X.K G1 H1 x v := rx.elim id fun z => absurd z.1 (by simp)
  obtain ⟨k, ek, h2⟩ := h1.optb
  refine ⟨k, truth_ok (repV_rs m1 (hS.mono e1) rx) ek, ?_⟩
  cases k with
  | true => exact ⟨G1, s, M1, m1, hS.mono e1, h2⟩
  | false => exact h2 G1 H1 v .refl m1 (.inl rx)
theorem se_or {e e2 : Expr} {es : List Expr} {m m2 : ME} {ms : MEs} {pos : Pos} (ha : PE X e (tE T X.K W (fun s M => evE R false s m M) false)) (hr : PE X (.BoolOp .Or (e2 :: es) pos) (tE T X.K W (fun s M => evOr R s (.cons m2 ms) M) false)) :
    PE X (.BoolOp .Or (e :: e2 :: es) pos) (tE T X.K W (fun s M => evOr R s (.cons m (.cons m2 ms)) M) false) := by
  refine (pe_orT ha hr).weak fun σ H Q ⟨G, s, M, hM, hS, h⟩ => ?_
  simp only [evOr] at h
  refine ⟨G, s, M, hM, hS, h.bind fun x M1 G1 H1 v _ e1 m1 rx h1 => ?_⟩
  have rx : Rep X.K G1 H1 x v := rx.elim id fun z => absurd z.1 (by simp)
  obtain ⟨k, ek, h2⟩ := h1.optb
  refine ⟨k, truth_ok (repV_rs m1 (hS.mono e1) rx) ek, ?_⟩
  cases k with
  | true => exact h2 G1 H1 v .refl m1 (.inl rx)
  | false => exact ⟨G1, s, M1, m1, hS.mono e1, h2⟩
theorem se_chain {e a c d : Expr} {o1 o2 : CmpOp} {p1 p2 : Op2} {r r' : R2} {ma mc md : ME} (he : exCmp2 e = some (a, o1, c, o2, d)) (hb1 : exSet d = false) (h1 : OpR X (compareOp o1) r) (s1 : Serves2 T X.K r (op2 p1)) (h2 : OpR X (compareOp o2) r') (s2 : Serves2 T X.K r' (op2 p2))
    (ha : PE X a (tE T X.K W (fun s M => evE R false s ma M) false)) (hc : PE X c (tE T X.K W (fun s M => evE R false s mc M) false)) (hd : PE X d (tE T X.K W (fun s M => evE R false s md M) false)) :
    PE X e (tE T X.K W (fun s M => evE R b s (.chain p1 p2 ma mc md) M) b) := by
  obtain ⟨p, rfl⟩ := exCmp2_ok he
  refine tE.up ((pe_chain h1 h2 ha hc hd (noSet2 hb1)).weak fun σ H Q ⟨G, s, M, hM, hS, h⟩ => ?_)
  simp only [evE] at h
  refine ⟨G, s, M, hM, hS, h.bind fun x M1 G1 H1 v _ e1 m1 rx h1 => ⟨G1, s, M1, m1, hS.mono e1, h1.bind fun y M2 G2 H2 w _ e2 m2 ry h2 => ?_⟩⟩
  have rx : Rep X.K G2 H2 x v := (rx.elim id fun z => absurd z.1 (by simp)).mono e2
  have ry : Rep X.K G2 H2 y w := ry.elim id fun z => absurd z.1 (by simp)
  obtain ⟨z, ez, h3⟩ := h2.optb
  refine s1 G2 H2 M2 x y z v w _ m2 (.of rx) (.of ry) ez fun G3 H3 b' e3 m3 r3 => ?_
  cases z with
  | bl k =>
    cases r3
    refine ⟨k, rfl, ?_⟩
    cases k with
    | true =>
      refine ⟨G3, s, M2, m3, ((hS.mono e1).mono e2).mono e3, (Kont.ext h3 e3).bind fun z M4 G4 H4 u _ e4 m4 rz h4 => ?_⟩
      have rz : Rep X.K G4 H4 z u := rz.elim id fun z => absurd z.1 (by simp)
      obtain ⟨q, eq, k4⟩ := h4.opt
      exact s2 G4 H4 M4 y z q w u Q m4 (.of ((ry.mono e3).mono e4)) (.of rz) eq fun G' H' b' e m r => k4 G' H' b' e m (.inl r)
    | false => exact h3 G3 H3 _ e3 m3 (.inl (.bl _))
  | _ => exact h3.elim
theorem st_chain {e a c d : Expr} {o1 o2 : CmpOp} {p1 p2 : Op2} {r r' : R2} {ma mc md : ME} (he : exCmp2 e = some (a, o1, c, o2, d)) (hb1 : exSet d = false) (h1 : OpR X (compareOp o1) r) (s1 : Serves2 T X.K r (op2 p1)) (h2 : OpR X (compareOp o2) r') (s2 : Serves2 T X.K r' (op2 p2))
    (hb : ∀ x y z, op2 p2 x y = some z → ∃ k, z = .bl k)
    (ha : PE X a (tE T X.K W (fun s M => evE R false s ma M) false)) (hc : PE X c (tE T X.K W (fun s M => evE R false s mc M) false)) (hd : PE X d (tE T X.K W (fun s M => evE R false s md M) false)) :
    PT X e (tT T X.K W (fun s M => (evE R b s (.chain p1 p2 ma mc md) M).bind fun x M => .opt (rs s M x).truth M)) := by
  obtain ⟨p, rfl⟩ := exCmp2_ok he
  refine (pt_chain h1 h2 ha hc hd (noSet2 hb1)).weak fun σ H Q ⟨G, s, M, hM, hS, h⟩ => ?_
  simp only [evE, Res.bind_assoc] at h
  refine ⟨G, s, M, hM, hS, h.bind fun x M1 G1 H1 v _ e1 m1 rx h1 => ⟨G1, s, M1, m1, hS.mono e1, h1.bind fun y M2 G2 H2 w _ e2 m2 ry h2 => ?_⟩⟩
  have rx : Rep X.K G2 H2 x v := (rx.elim id fun z => absurd z.1 (by simp)).mono e2
  have ry : Rep X.K G2 H2 y w := ry.elim id fun z => absurd z.1 (by simp)
  obtain ⟨z, ez, h3⟩ := h2.optb
  refine s1 G2 H2 M2 x y z v w _ m2 (.of rx) (.of ry) ez fun G3 H3 b' e3 m3 r3 => ?_
  cases z with
  | bl k =>
    cases r3
    refine ⟨k, rfl, ?_⟩
    cases k with
    | true =>
      simp only [Res.bind_assoc] at h3
      refine ⟨G3, s, M2, m3, ((hS.mono e1).mono e2).mono e3, (Kont.ext h3 e3).bind fun z M4 G4 H4 u _ e4 m4 rz h4 => ?_⟩
      have rz : Rep X.K G4 H4 z u := rz.elim id fun z => absurd z.1 (by simp)
      obtain ⟨q, eq, k4⟩ := h4.optb
      obtain ⟨c, rfl⟩ := hb _ _ _ eq
      refine s2 G4 H4 M4 y z _ w u _ m4 (.of ((ry.mono e3).mono e4)) (.of rz) eq fun G' H' b' e m r => ?_
      cases r
      exact ⟨c, rfl, k4 G' H' c e m rfl⟩
    | false => exact ⟨false, rfl, h3 G3 H3 false e3 m3 rfl⟩
  | _ => exact h3.elim

/-! ### tests -/
theorem st_not {e a : Expr} {t : MT} (he : exUn e = some (.Not, a)) (ha : PT X a (tT T X.K W fun s M => evT R s t M)) : PT X e (tT T X.K W fun s M => evT R s (.not t) M) := by
  obtain ⟨p, rfl⟩ := exUn_ok he
  refine (pt_not ha).weak fun σ H Q ⟨G, s, M, hM, hS, h⟩ => ?_
  simp only [evT] at h
  refine ⟨G, s, M, hM, hS, h.bind fun k M1 G1 H1 k' _ e1 m1 r h1 => ?_⟩
  subst r
  exact h1 G1 H1 _ .refl m1 rfl
theorem st_and1 {e : Expr} {t : MT} {pos : Pos} (ha : PT X e (tT T X.K W fun s M => evT R s t M)) : PW X (.BoolOp .And [e] pos) (tT T X.K W fun s M => evAll R s (.cons t .nil) M) := by
  have h := pw_and1 (pos := pos) ha
  refine ⟨fun wh pins s σ H Q I ⟨G, s', M, hM, hS, k⟩ => h.run wh pins s σ H Q I ⟨G, s', M, hM, hS, ?_⟩⟩
  simp only [evAll] at k
  refine k.bind fun k0 M1 G1 H1 k' _ e1 m1 r h1 => ?_
  subst r
  cases k0 <;> exact h1 G1 H1 _ .refl m1 rfl
theorem st_or1 {e : Expr} {t : MT} {pos : Pos} (ha : PT X e (tT T X.K W fun s M => evT R s t M)) : PW X (.BoolOp .Or [e] pos) (tT T X.K W fun s M => evAny R s (.cons t .nil) M) := by
  have h := pw_or1 (pos := pos) ha
  refine ⟨fun wh pins s σ H Q I ⟨G, s', M, hM, hS, k⟩ => h.run wh pins s σ H Q I ⟨G, s', M, hM, hS, ?_⟩⟩
  simp only [evAny] at k
  refine k.bind fun k0 M1 G1 H1 k' _ e1 m1 r h1 => ?_
  subst r
  cases k0 <;> exact h1 G1 H1 _ .refl m1 rfl
theorem st_and {e e2 : Expr} {es : List Expr} {t : MT} {ts : MTs} {pos : Pos} (ha : PT X e (tT T X.K W fun s M => evT R s t M)) (hr : PW X (.BoolOp .And (e2 :: es) pos) (tT T X.K W fun s M => evAll R s ts M)) :
    PW X (.BoolOp .And (e :: e2 :: es) pos) (tT T X.K W fun s M => evAll R s (.cons t ts) M) := by
  have h := pw_and ha hr
  refine ⟨fun wh pins s σ H Q I ⟨G, s', M, hM, hS, k⟩ => h.run wh pins s σ H Q I ⟨G, s', M, hM, hS, ?_⟩⟩
  simp only [evAll] at k
  refine k.bind fun k0 M1 G1 H1 k' _ e1 m1 r h1 => ?_
  subst r
  cases k0 with
  | true => exact ⟨G1, s', M1, m1, hS.mono e1, h1⟩
  | false => exact h1 G1 H1 _ .refl m1 rfl
theorem st_or {e e2 : Expr} {es : List Expr} {t : MT} {ts : MTs} {pos : Pos} (ha : PT X e (tT T X.K W fun s M => evT R s t M)) (hr : PW X (.BoolOp .Or (e2 :: es) pos) (tT T X.K W fun s M => evAny R s ts M)) :
    PW X (.BoolOp .Or (e :: e2 :: es) pos) (tT T X.K W fun s M => evAny R s (.cons t ts) M) := by
  have h := pw_or ha hr
  refine ⟨fun wh pins s σ H Q I ⟨G, s', M, hM, hS, k⟩ => h.run wh pins s σ H Q I ⟨G, s', M, hM, hS, ?_⟩⟩
  simp only [evAny] at k
  refine k.bind fun k0 M1 G1 H1 k' _ e1 m1 r h1 => ?_
  subst r
  cases k0 with
  | true => exact h1 G1 H1 _ .refl m1 rfl
  | false => exact ⟨G1, s', M1, m1, hS.mono e1, h1⟩

/-! ### slices -/
def tO (T : Tb) (K : Frag) (W : WX) (ev : Sl → MH → Res (Option Int)) : TO := fun σ H Q => ∃ G s M, RelM T.C K G H M ∧ RelS K G H σ s ∧ Kont T K W σ G H (ev s M) (fun _ _ _ d v => d = v) Q
theorem so_no : PO X none (tO T X.K W fun s M => evB R s .no M) := ⟨fun pins s σ H Q I ⟨G, s', M, hM, hS, h⟩ => po_none.run pins s σ H Q I (by
  simp only [evB] at h
  exact h G H none .refl hM rfl)⟩
theorem so_e {e : Expr} {m : ME} (ha : PE X e (tE T X.K W (fun s M => evE R false s m M) false)) : PO X (some e) (tO T X.K W fun s M => evB R s (.e m) M) := ⟨fun pins s σ H Q I ⟨G, s', M, hM, hS, h⟩ => (po_some ha).run pins s σ H Q I (by
  simp only [evB] at h
  refine ⟨G, s', M, hM, hS, h.bind fun x M1 G1 H1 v _ e1 m1 rx h1 => ?_⟩
  have rx : Rep X.K G1 H1 x v := rx.elim id fun z => absurd z.1 (by simp)
  cases x with
  | int i => cases rx; exact ⟨i, rfl, h1 G1 H1 _ .refl m1 rfl⟩
  | _ => exact h1.elim)⟩
def rSlAll (K : Frag) : V → Option Int → Option Int → Hp → VK → Prop := fun x lo hi H Q => (rSlA K x lo hi H Q ∨ rSlL K x lo hi H Q) ∨ rSlS x lo hi H Q
theorem sl_all : SlR X (rSlAll X.K) := SlR.or (SlR.or sl_tupA sl_list) sl_str
theorem sv_sl {K : Frag} {G : Gh} {H : Hp} {M : MH} {x z : D} {v : V} {lo hi : Option Int} {Q : VK} (hM : RelM T.C K G H M) (hx : RepR K G H x v) (e : sl3 x lo hi = some z) (k : Wants T K G H M z Q) : rSlAll K v lo hi H Q := by
  cases x <;> simp [sl3] at e
  · obtain ⟨c, e⟩ := e
    subst e
    rw [hx.str]
    exact .inr ⟨_, rfl, c, k.here hM (.str _)⟩
  · subst e
    obtain ⟨a, xs, rfl, ha, ra⟩ := hx.tup
    have r := ra.cut lo hi
    refine .inl (.inl ⟨a, xs, rfl, ha, fun q => ?_, fun _ => k.tup hM r⟩)
    obtain ⟨q1, q2⟩ := q
    have el : cutV xs lo hi = xs := by unfold cutV; rw [q1, q2]; simp
    rw [el] at r
    exact k.here hM (.tup ha r)
  · subst e
    obtain ⟨a, xs, rfl, ha, ra⟩ := hx.lstH
    exact .inl (.inr ⟨a, xs, rfl, SqL.of ha, k.lst hM (ra.cut lo hi)⟩)
theorem se_sl {e a : Expr} {lo hi : Option Expr} {ma : ME} {ml mh : MB} (he : exSlice e = some (a, lo, hi)) (ha : PE X a (tE T X.K W (fun s M => evE R true s ma M) true)) (hl : PO X lo (tO T X.K W fun s M => evB R s ml M)) (hh : PO X hi (tO T X.K W fun s M => evB R s mh M)) :
    PE X e (tE T X.K W (fun s M => evE R b s (.sl ma ml mh) M) b) := by
  obtain ⟨p, q, rfl⟩ := exSlice_ok he
  refine (pe_slice sl_all ha hl hh).weak fun σ H Q ⟨G, s, M, hM, hS, h⟩ => ?_
  simp only [evE] at h
  refine ⟨G, s, M, hM, hS, h.bind fun x M1 G1 H1 v _ e1 m1 rx h1 => ⟨G1, s, M1, m1, hS.mono e1, h1.bind fun y M2 G2 H2 y' _ e2 m2 ry h2 => ?_⟩⟩
  subst ry
  refine ⟨G2, s, M2, m2, (hS.mono e1).mono e2, h2.bind fun z M3 G3 H3 z' _ e3 m3 rz h3 => ?_⟩
  subst rz
  obtain ⟨d, ed, k⟩ := h3.opt
  exact sv_sl m3 (repB_rs m3 (((hS.mono e1).mono e2).mono e3) ((rx.mono (M := M1) (M' := M2) e2).mono (M := M2) e3)) ed fun G' H' b' e m r => k G' H' b' e m (.inl r)
end
end MP

set_option Elab.async false
set_option linter.all false
set_option maxRecDepth 100000
set_option maxHeartbeats 2000000
set_option autoImplicit false
/-! MP, part i: operations of one value; built-ins of two -/
namespace MP
open PySem PySem.Spec PyProof.Rows L2

def Ty.nm : Ty → String
  | .int => "int"
  | .bool => "bool"
  | .str => "str"
  | .tuple => "tuple"
  | .list => "list"
def bi (P : Pg) (S : SC) (x : Str) : Bool := isGl S x && P.free.contains x
def Op1.nm : Op1 → Option Str
  | .len => some "len"
  | .tuple => some "tuple"
  | .list => some "list"
  | .all => some "all"
  | .any => some "any"
  | .sum => some "sum"
  | .int => some "int"
  | .str => some "str"
  | .repr => some "repr"
  | .abs => some "abs"
  | _ => none
def exNone : Expr → Bool
  | .Constant .none _ _ => true
  | _ => false
theorem exNone_ok {e : Expr} (h : exNone e = true) : ∃ k p, e = .Constant .none k p := by
  unfold exNone at h; split at h
  · exact ⟨_, _, rfl⟩
  · cases h
def exBool (b : Bool) : Expr → Bool
  | .Constant (.bool c) _ _ => b == c
  | _ => false
theorem exBool_ok {b : Bool} {e : Expr} (h : exBool b e = true) : ∃ k p, e = .Constant (.bool b) k p := by
  unfold exBool at h; split at h
  · rw [eq_of_beq h]; exact ⟨_, _, rfl⟩
  · cases h
def sh1 (P : Pg) (S : SC) (o : Op1) (e : Expr) : Option Expr := match o with
  | .neg => match exUn e with
    | some (.USub, a) => some a
    | _ => none
  | .not => match exUn e with
    | some (.Not, a) => some a
    | _ => none
  | .isi t => match exCall e with
    | some (x, [a, c]) => if (x == "isinstance" && bi P S "isinstance") && ((exName c == some (Str.ofString t.nm) && bi P S (Str.ofString t.nm)) && !exStar a) then some a else none
    | _ => none
  | .isN => match exCmp1 e with
    | some (a, .Is, c) => if exNone c then some a else none
    | _ => none
  | .notN => match exCmp1 e with
    | some (a, .IsNot, c) => if exNone c then some a else none
    | _ => none
  | .isB b => match exCmp1 e with
    | some (a, .Is, c) => if exBool b c then some a else none
    | _ => none
  | .notB b => match exCmp1 e with
    | some (a, .IsNot, c) => if exBool b c then some a else none
    | _ => none
  | .rev => exRev e
  | .bitlen => match exMeth e with
    | some (a, m, []) => if m == "bit_length" && notSuper a then some a else none
    | _ => none
  | o => match o.nm, exCall e with
    | some nm, some (x, [a]) => if (x == nm && bi P S nm) && !exStar a then some a else none
    | _, _ => none
section
variable {T : Tb} {P : Pg} {R : MP.Env} {adr : Nat → Addr} {n : Nat} {X : Cx} {S : SC} {W : WX} {b : Bool} {K : Frag}

theorem Serves1.of {r : V → Hp → VK → Prop} {g : D → Option D} (h : ∀ (G : Gh) (H : Hp) (M : MH) (x z : D) (v : V) (Q : VK), RelM T.C K G H M → RepR K G H x v → g x = some z → Wants T K G H M z Q → r v H Q) : Serves1 T K r g := h
theorem sv_neg : Serves1 T K (rU fun i => .int (-i)) (op1 .neg) := fun G H M x z v Q hM hx e k => by
  cases x <;> simp [op1] at e
  subst e; rw [hx.int]; exact ⟨_, rfl, k.here hM (.int _)⟩
theorem sv_len : Serves1 T K (fun x H Q => ∃ y n, [x] = [y] ∧ LenV K y H n ∧ Q (.int n) H) (op1 .len) := fun G H M x z v Q hM hx e k => by
  cases x <;> simp [op1] at e
  · obtain ⟨c, e⟩ := e
    subst e; rw [hx.str]; exact ⟨_, _, rfl, ⟨c, rfl⟩, k.here hM (.int _)⟩
  · subst e
    obtain ⟨a, xs, rfl, ha, ra⟩ := hx.tup
    exact ⟨_, _, rfl, .inr ⟨xs, ha, rfl⟩, by rw [← ra.length]; exact k.here hM (.int _)⟩
  · subst e
    obtain ⟨a, xs, rfl, ha, ra⟩ := hx.lstH
    exact ⟨_, _, rfl, .inl ⟨xs, SqL.of ha, rfl⟩, by rw [← ra.length]; exact k.here hM (.int _)⟩
  · subst e
    obtain ⟨a, rfl, ha⟩ := hx.scr
    exact ⟨_, _, rfl, .inl ⟨_, ha, rfl⟩, by rw [List.length_map]; exact k.here hM (.int _)⟩
theorem sv_tuple : Serves1 T K (fun x H Q => ∃ p ys, [x] = [.ref p] ∧ ((SqL K H p ys ∧ ∀ l, H l = none → Q (.ref l) (upd H l (.tup ys))) ∨ (SqT K H p ys ∧ Q (.ref p) H))) (op1 .tuple) := fun G H M x z v Q hM hx e k => by
  cases x <;> simp [op1] at e
  · subst e
    obtain ⟨a, xs, rfl, ha, ra⟩ := hx.tup
    exact ⟨a, xs, rfl, .inr ⟨ha, k.here hM (.tup ha ra)⟩⟩
  · subst e
    obtain ⟨a, xs, rfl, ha, ra⟩ := hx.lstH
    exact ⟨a, xs, rfl, .inl ⟨SqL.of ha, k.tup hM ra⟩⟩
theorem sv_list : Serves1 T K (fun x H Q => ∃ p ys, [x] = [.ref p] ∧ (SqL K H p ys ∨ SqT K H p ys) ∧ ∀ l, H l = none → Q (.ref l) (upd H l (.lst ys))) (op1 .list) := fun G H M x z v Q hM hx e k => by
  cases x <;> simp [op1] at e
  · subst e
    obtain ⟨a, xs, rfl, ha, ra⟩ := hx.tup
    exact ⟨a, xs, rfl, .inr ha, k.lst hM ra⟩
  · subst e
    obtain ⟨a, xs, rfl, ha, ra⟩ := hx.lstH
    exact ⟨a, xs, rfl, .inl (SqL.of ha), k.lst hM ra⟩
theorem sv_all : Serves1 T K (fun x H Q => rAll K [x] H Q) (op1 .all) := fun G H M x z v Q hM hx e k => by
  cases x <;> simp [op1] at e
  obtain ⟨bs, h1, e⟩ := e
  subst e
  obtain ⟨a, xs, rfl, ha, ra⟩ := hx.lstH
  have := ra.bls h1
  subst this
  exact ⟨a, bs, rfl, SqL.of ha, k.here hM (.bl _)⟩
theorem sv_any : Serves1 T K (fun x H Q => rAny K [x] H Q) (op1 .any) := fun G H M x z v Q hM hx e k => by
  cases x <;> simp [op1] at e
  obtain ⟨bs, h1, e⟩ := e
  subst e
  obtain ⟨a, xs, rfl, ha, ra⟩ := hx.lstH
  have := ra.bls h1
  subst this
  exact ⟨a, bs, rfl, SqL.of ha, k.here hM (.bl _)⟩
theorem sv_sum : Serves1 T K (fun x H Q => rSum K [x] H Q) (op1 .sum) := fun G H M x z v Q hM hx e k => by
  cases x <;> simp [op1] at e
  obtain ⟨bs, h1, e⟩ := e
  subst e
  obtain ⟨a, xs, rfl, ha, ra⟩ := hx.lstH
  have := ra.ints h1
  subst this
  exact ⟨a, bs, rfl, SqL.of ha, k.here hM (.int _)⟩
def rIntA : List V → Hp → VK → Prop := fun xs H Q => ((∃ i, xs = [.int i] ∧ Q (.int i) H) ∨ ∃ k, xs = [.bl k] ∧ Q (.int (if k then 1 else 0)) H) ∨ ∃ a n, xs = [.str a] ∧ PySem.intText? a = some n ∧ a.length ≤ 640 ∧ Q (.int n) H
theorem call_intA : CallR X (.type "int") rIntA := CallR.or call_int1 call_int_str
theorem sv_int : Serves1 T K (fun x H Q => rIntA [x] H Q) (op1 .int) := fun G H M x z v Q hM hx e k => by
  cases x <;> simp [op1] at e
  · subst e; rw [hx.bl]; exact .inl (.inr ⟨_, rfl, k.here hM (.int _)⟩)
  · subst e; rw [hx.int]; exact .inl (.inl ⟨_, rfl, k.here hM (.int _)⟩)
  · obtain ⟨c, i, e1, e⟩ := e
    subst e; rw [hx.str]; exact .inr ⟨_, _, rfl, e1, c, k.here hM (.int _)⟩
def rStrA : List V → Hp → VK → Prop := fun xs H Q => (∃ i : Int, xs = [.int i] ∧ i.natAbs.log2 < 1920 ∧ Q (.str (toString i)) H) ∨ ∃ a, xs = [.str a] ∧ Q (.str a) H
theorem call_strA : CallR X (.type "str") rStrA := CallR.or call_str_int SkE.call_str_str
theorem sv_str : Serves1 T K (fun x H Q => rStrA [x] H Q) (op1 .str) := fun G H M x z v Q hM hx e k => by
  cases x <;> simp [op1] at e
  · obtain ⟨c, e⟩ := e
    subst e; rw [hx.int]; exact .inl ⟨_, rfl, c, k.here hM (.str _)⟩
  · subst e; rw [hx.str]; exact .inr ⟨_, rfl, k.here hM (.str _)⟩
def rReprA : List V → Hp → VK → Prop := fun xs H Q => (∃ i : Int, xs = [.int i] ∧ i.natAbs.log2 < 1920 ∧ Q (.str (toString i)) H) ∨ ∃ b : Bool, xs = [.bl b] ∧ Q (.str (if b then "True" else "False")) H
theorem call_reprA : CallR X (.builtin "repr") rReprA := CallR.or SkE.call_repr_int (by
  intro pins s σ H xs us Q I r h
  obtain ⟨b, rfl, q⟩ := h
  obtain ⟨u, rfl, ru⟩ := vals1 r
  cases (show u = Value.bool b from ru)
  exact PySem.P.repr_of_bool ⟨.str _, H, I.tok _, ⟨_, rfl⟩, q⟩)
theorem sv_repr : Serves1 T K (fun x H Q => rReprA [x] H Q) (op1 .repr) := fun G H M x z v Q hM hx e k => by
  cases x <;> simp [op1] at e
  · subst e; rw [hx.bl]
    refine .inr ⟨_, rfl, k.here hM ?_⟩
    rename_i b
    cases b <;> exact .str _
  · obtain ⟨c, e⟩ := e
    subst e; rw [hx.int]; exact .inl ⟨_, rfl, c, k.here hM (.str _)⟩
theorem sv_abs : Serves1 T K (fun x H Q => ∃ i, [x] = [.int i] ∧ Q (.int (if i < 0 then -i else i)) H) (op1 .abs) := fun G H M x z v Q hM hx e k => by
  cases x <;> simp [op1] at e
  subst e; rw [hx.int]
  refine ⟨_, rfl, k.here hM ?_⟩
  split <;> simp_all <;> exact .int _
def Ty.kind (t u : Ty) : Bool := match t, u with
  | .int, .int => true
  | .bool, .int => true
  | .bool, .bool => true
  | .str, .str => true
  | .tuple, .tuple => true
  | .list, .list => true
  | _, _ => false
theorem kit_all (t u : Ty) : PySem.W.kitOne K (.type t.nm) (.type u.nm) = some (t.kind u) := by
  refine kit_ty ?_
  cases t <;> cases u <;> decide +kernel
theorem kit_non (u : Ty) : PySem.W.kitOne K (.type "NoneType") (.type u.nm) = some false := by
  refine kit_ty ?_
  cases u <;> decide +kernel
theorem sv_isi (t : Ty) : Serves1 T K (fun x H Q => rIsi K [x, .ty t.nm] H Q) (op1 (.isi t)) := fun G H M x z v Q hM hx e k => by
  have go : ∀ (u : Value) (c : Bool), TyX K H v u → PySem.W.kitOne K u (.type t.nm) = some c → x.isTy t = some c → rIsi K [v, .ty t.nm] H Q := fun u c h1 h2 h3 => by
    simp [op1, h3] at e
    subst e
    exact ⟨_, _, _, _, c, rfl, .ty _, h1, h2, k.here hM (.bl _)⟩
  cases x with
  | non => rw [hx.non] at go ⊢; exact go _ _ (.base .non) (kit_non t) (by cases t <;> rfl)
  | bl b => rw [hx.bl] at go ⊢; exact go _ _ (.base (.bl _)) (kit_all .bool t) (by cases t <;> rfl)
  | int i => rw [hx.int] at go ⊢; exact go _ _ (.base (.int _)) (kit_all .int t) (by cases t <;> rfl)
  | str y => rw [hx.str] at go ⊢; exact go _ _ (.base (.str _)) (kit_all .str t) (by cases t <;> rfl)
  | tup l =>
    obtain ⟨a, xs, rfl, ha, ra⟩ := hx.tup
    refine go (.type "tuple") _ ?_ (kit_all .tuple t) (by cases t <;> rfl)
    rcases ha with (ha | ⟨o, ha⟩) | ⟨o, its, m, h1, h2, _⟩
    · exact .base (.tup ha)
    · exact .fTuple ha
    · exact .kTuple h1 h2
  | lst l =>
    obtain ⟨a, xs, rfl, ha, ra⟩ := hx.lstH
    exact go (.type "list") _ (.base (.lst ha)) (kit_all .list t) (by cases t <;> rfl)
  | _ => cases t <;> simp [op1, D.isTy] at e
def D.isNon : D → Bool
  | .non => true
  | _ => false
theorem non_ok {G : Gh} {H : Hp} {x : D} {v : V} (hx : RepR K G H x v) : decide (v = V.non) = x.isNon := by
  cases x with
  | non => rw [hx.non]; rfl
  | bl b => rw [hx.bl]; rfl
  | int i => rw [hx.int]; rfl
  | str y => rw [hx.str]; rfl
  | tup l => obtain ⟨a, xs, rfl, _⟩ := hx.tup; rfl
  | lst l => obtain ⟨a, xs, rfl, _⟩ := hx.lstH; rfl
  | ref r => obtain ⟨a, rfl, _⟩ := hx.ref; rfl
  | scr l => obtain ⟨a, rfl, _⟩ := hx.scr; rfl
  | own i => cases hx with
    | of h => cases h
theorem sv_isN : Serves1 T K (fun x H Q => V.non = V.non ∧ Q (.bl (decide (x = .non))) H) (op1 .isN) := fun G H M x z v Q hM hx e k => by
  refine ⟨rfl, ?_⟩
  rw [non_ok hx]
  refine k.here hM ?_
  cases x <;> simp [op1] at e <;> subst e <;> exact .bl _
theorem sv_notN : Serves1 T K (fun x H Q => V.non = V.non ∧ Q (.bl (!decide (x = .non))) H) (op1 .notN) := fun G H M x z v Q hM hx e k => by
  refine ⟨rfl, ?_⟩
  rw [non_ok hx]
  refine k.here hM ?_
  cases x <;> simp [op1] at e <;> subst e <;> exact .bl _
theorem sv_isB (c : Bool) : Serves1 T K (fun x H Q => ∃ a b, x = .bl a ∧ V.bl c = .bl b ∧ Q (.bl (decide (a = b))) H) (op1 (.isB c)) := fun G H M x z v Q hM hx e k => by
  cases x <;> simp [op1] at e
  subst e; rw [hx.bl]; exact ⟨_, _, rfl, rfl, k.here hM (.bl _)⟩
theorem sv_notB (c : Bool) : Serves1 T K (fun x H Q => ∃ a b, x = .bl a ∧ V.bl c = .bl b ∧ Q (.bl (!decide (a = b))) H) (op1 (.notB c)) := fun G H M x z v Q hM hx e k => by
  cases x <;> simp [op1] at e
  subst e; rw [hx.bl]; exact ⟨_, _, rfl, rfl, k.here hM (.bl _)⟩
theorem sv_rev : Serves1 T K (fun x H Q => ∃ a xs, x = .ref a ∧ SqL K H a xs ∧ ∀ p, H p = none → Q (.ref p) (upd H p (.lst xs.reverse))) (op1 .rev) := fun G H M x z v Q hM hx e k => by
  cases x <;> simp [op1] at e
  subst e
  obtain ⟨a, xs, rfl, ha, ra⟩ := hx.lstH
  exact ⟨a, xs, rfl, SqL.of ha, k.lst hM ra.reverse⟩
theorem sv_bits : Serves1 T K (fun x H Q => ∃ i, x = .int i ∧ Q (.int (Builtin.Int.intBits i : Nat)) H) (op1 .bitlen) := fun G H M x z v Q hM hx e k => by
  cases x <;> simp [op1] at e
  subst e; rw [hx.int]
  refine ⟨_, rfl, k.here hM ?_⟩
  unfold Builtin.Int.intBits
  rename_i i
  by_cases h : i = 0
  · simp [h]; exact .int _
  · simp [h]; exact .int _

/-! ### the forms -/
theorem bi_ok {x : Str} (pr : PrOk T P R adr n X.prog X.w X.K X.mg X.base) (xo : XOk S n X W) (h : bi P S x = true) : Gl X x ∧ X.mg x = none := by
  unfold bi at h
  obtain ⟨h1, h2⟩ := Bool.and_eq_true_iff.mp h
  exact ⟨xo.gl (isGl_ok h1), pr.free x (by simpa using h2)⟩
theorem rule_B {e a : Expr} {x : Str} {id : String} {r : List V → Hp → VK → Prop} (pr : PrOk T P R adr n X.prog X.w X.K X.mg X.base) (xo : XOk S n X W) (he : exCall e = some (x, [a])) (hb : bi P S x = true) (hs : exStar a = false) (hc : CallR X (.builtin id) r) (hv : bootBuiltins x = some (.builtin id))
    (hn : x ≠ "__name__") (hd : (x == ("__debug__" : Str)) = false) : ∀ ta, PE X a ta → PE X e (tUn (fun v H Q => r [v] H Q) ta) := fun ta ha => by
  obtain ⟨p, q, rfl⟩ := exCall_ok he
  obtain ⟨h1, h2⟩ := bi_ok pr xo hb
  exact pe_callB hc h1 h2 hv (pa_cons ha pa_nil (star_cons hs)) hn hd (star_cons hs) rfl
theorem rule_Ty {e a : Expr} {x : Str} {id : String} {r : List V → Hp → VK → Prop} (pr : PrOk T P R adr n X.prog X.w X.K X.mg X.base) (xo : XOk S n X W) (he : exCall e = some (x, [a])) (hb : bi P S x = true) (hs : exStar a = false) (hc : CallR X (.type id) r) (hv : bootBuiltins x = some (.type id))
    (hn : x ≠ "__name__") (hd : (x == ("__debug__" : Str)) = false) : ∀ ta, PE X a ta → PE X e (tUn (fun v H Q => r [v] H Q) ta) := fun ta ha => by
  obtain ⟨p, q, rfl⟩ := exCall_ok he
  obtain ⟨h1, h2⟩ := bi_ok pr xo hb
  exact pe_callTy hc h1 h2 hv (pa_cons ha pa_nil (star_cons hs)) hn hd (star_cons hs) rfl
theorem rule_B2 {e a c : Expr} {x : Str} {id : String} {r : List V → Hp → VK → Prop} (pr : PrOk T P R adr n X.prog X.w X.K X.mg X.base) (xo : XOk S n X W) (he : exCall e = some (x, [a, c])) (hb : bi P S x = true) (hs : exStar a = false) (hs2 : exStar c = false) (hc : CallR X (.builtin id) r) (hv : bootBuiltins x = some (.builtin id))
    (hn : x ≠ "__name__") (hd : (x == ("__debug__" : Str)) = false) : ∀ ta tc, PE X a ta → PE X c tc → PE X e (tOp (fun v w H Q => r [v, w] H Q) ta tc) := fun ta tc ha hcc => by
  obtain ⟨p, q, rfl⟩ := exCall_ok he
  obtain ⟨h1, h2⟩ := bi_ok pr xo hb
  exact pe_callB hc h1 h2 hv (pa_cons ha (pa_cons hcc pa_nil (star_cons hs2)) (star_cons hs)) hn hd (star_cons hs) (by rw [star_cons hs2]; rfl)
theorem ite_some' {α : Type} {c : Bool} {a x : α} (h : (if c = true then some a else none) = some x) : c = true ∧ a = x := by
  cases c with
  | true => exact ⟨rfl, Option.some.inj h⟩
  | false => cases h
theorem isT_boot (t : Ty) : bootBuiltins (Str.ofString t.nm) = some (.type t.nm) := by cases t <;> decide +kernel
theorem isT_nn (t : Ty) : (Str.ofString t.nm : Str) ≠ "__name__" ∧ ((Str.ofString t.nm : Str) == ("__debug__" : Str)) = false := by cases t <;> decide +kernel
theorem se_1 {o : Op1} {e a : Expr} {ea : Sl → MH → Res D} (pr : PrOk T P R adr n X.prog X.w X.K X.mg X.base) (xo : XOk S n X W) (he : sh1 P S o e = some a) (ha : PE X a (tE T X.K W ea true)) :
    PE X e (tE T X.K W (fun s M => (ea s M).bind fun x M => .opt (op1 o (rs s M x)) M) b) := by
  have call : ∀ nm : Str, o.nm = some nm → (match o.nm, exCall e with | some nm, some (x, [a]) => if (x == nm && bi P S nm) && !exStar a then some a else none | _, _ => none) = some a → exCall e = some (nm, [a]) ∧ bi P S nm = true ∧ exStar a = false := fun nm h h2 => by
    rw [h] at h2
    split at h2
    · rename_i x a' q hq hx
      cases hq
      obtain ⟨h3, h4⟩ := ite_some' h2
      subst h4
      simp only [Bool.and_eq_true, beq_iff_eq, Bool.not_eq_true'] at h3
      obtain ⟨⟨h5, h6⟩, h7⟩ := h3
      subst h5
      exact ⟨hx, h6, h7⟩
    · cases h2
  cases o with
  | neg =>
    simp only [sh1] at he
    split at he
    · rename_i a' hq
      cases he
      obtain ⟨p, rfl⟩ := exUn_ok hq
      exact se_op1 (fun ta h => pe_un un_neg h) sv_neg ha
    · cases he
  | not =>
    simp only [sh1] at he
    split at he
    · rename_i a' hq
      cases he
      obtain ⟨p, rfl⟩ := exUn_ok hq
      refine (pe_notT ha).weak fun σ H Q ⟨G, s, M, hM, hS, h⟩ => ⟨G, s, M, hM, hS, h.bind fun x M1 G1 H1 v _ e1 m1 rx h1 => ?_⟩
      obtain ⟨z, ez, k⟩ := h1.opt
      cases q : (rs s M1 x).truth with
      | none => simp [op1, q] at ez
      | some c =>
        simp [op1, q] at ez
        subst ez
        exact ⟨c, truth_ok (repB_rs m1 (hS.mono e1) rx) q, k G1 H1 _ .refl m1 (.inl (.bl _))⟩
    · cases he
  | len => obtain ⟨h1, h2, h3⟩ := call "len" rfl he; exact se_op1 (rule_B pr xo h1 h2 h3 call_len boot_len (by decide) (by decide)) sv_len ha
  | tuple => obtain ⟨h1, h2, h3⟩ := call "tuple" rfl he; exact se_op1 (rule_Ty pr xo h1 h2 h3 call_tuple_of (by decide +kernel) (by decide) (by decide)) sv_tuple ha
  | list => obtain ⟨h1, h2, h3⟩ := call "list" rfl he; exact se_op1 (rule_Ty pr xo h1 h2 h3 call_list_of (by decide +kernel) (by decide) (by decide)) sv_list ha
  | all => obtain ⟨h1, h2, h3⟩ := call "all" rfl he; exact se_op1 (rule_B pr xo h1 h2 h3 (cr_all xo.calm) (by decide +kernel) (by decide) (by decide)) sv_all ha
  | any => obtain ⟨h1, h2, h3⟩ := call "any" rfl he; exact se_op1 (rule_B pr xo h1 h2 h3 (cr_any xo.calm) (by decide +kernel) (by decide) (by decide)) sv_any ha
  | sum => obtain ⟨h1, h2, h3⟩ := call "sum" rfl he; exact se_op1 (rule_B pr xo h1 h2 h3 (cr_sum xo.calm) (by decide +kernel) (by decide) (by decide)) sv_sum ha
  | int => obtain ⟨h1, h2, h3⟩ := call "int" rfl he; exact se_op1 (rule_Ty pr xo h1 h2 h3 call_intA (by decide +kernel) (by decide) (by decide)) sv_int ha
  | str => obtain ⟨h1, h2, h3⟩ := call "str" rfl he; exact se_op1 (rule_Ty pr xo h1 h2 h3 call_strA (by decide +kernel) (by decide) (by decide)) sv_str ha
  | repr => obtain ⟨h1, h2, h3⟩ := call "repr" rfl he; exact se_op1 (rule_B pr xo h1 h2 h3 call_reprA (by decide +kernel) (by decide) (by decide)) sv_repr ha
  | abs => obtain ⟨h1, h2, h3⟩ := call "abs" rfl he; exact se_op1 (rule_B pr xo h1 h2 h3 call_abs (by decide +kernel) (by decide) (by decide)) sv_abs ha
  | isi t =>
    simp only [sh1] at he
    split at he
    · rename_i x a' c hq
      obtain ⟨h3, h4⟩ := ite_some' he
      subst h4
      simp only [Bool.and_eq_true, beq_iff_eq, Bool.not_eq_true'] at h3
      obtain ⟨⟨h5, h6⟩, ⟨h7, h8⟩, h9⟩ := h3
      subst h5
      obtain ⟨pc, rfl⟩ := exName_ok h7
      obtain ⟨g1, g2⟩ := bi_ok pr xo h8
      obtain ⟨n1, n2⟩ := isT_nn t
      have hty : PE X (.Name (Str.ofString t.nm) pc) (tC (.ty t.nm)) := pe_bltn g1 g2 (isT_boot t) rfl n1 n2
      exact se_op1 (fun ta h => rule_B2 (r := rIsi X.K) pr xo hq h6 h9 rfl call_isi (by decide +kernel) (by decide) (by decide) ta _ h hty) (sv_isi t) ha
    · cases he
  | isN =>
    simp only [sh1] at he
    split at he
    · rename_i a' c hq
      obtain ⟨h3, h4⟩ := ite_some' he
      subst h4
      obtain ⟨k, pc, rfl⟩ := exNone_ok h3
      obtain ⟨p, rfl⟩ := exCmp1_ok hq
      exact se_op1 (r := fun x H Q => V.non = V.non ∧ Q (.bl (decide (x = .non))) H) (fun ta h => pe_cmpR op_isN h pe_non rfl) sv_isN ha
    · cases he
  | notN =>
    simp only [sh1] at he
    split at he
    · rename_i a' c hq
      obtain ⟨h3, h4⟩ := ite_some' he
      subst h4
      obtain ⟨k, pc, rfl⟩ := exNone_ok h3
      obtain ⟨p, rfl⟩ := exCmp1_ok hq
      exact se_op1 (r := fun x H Q => V.non = V.non ∧ Q (.bl (!decide (x = .non))) H) (fun ta h => pe_cmpR op_notN h pe_non rfl) sv_notN ha
    · cases he
  | isB cc =>
    simp only [sh1] at he
    split at he
    · rename_i a' c hq
      obtain ⟨h3, h4⟩ := ite_some' he
      subst h4
      obtain ⟨k, pc, rfl⟩ := exBool_ok h3
      obtain ⟨p, rfl⟩ := exCmp1_ok hq
      exact se_op1 (r := fun x H Q => ∃ a b, x = .bl a ∧ V.bl cc = .bl b ∧ Q (.bl (decide (a = b))) H) (fun ta h => pe_cmpR op_is_bl h pe_bl rfl) (sv_isB _) ha
    · cases he
  | notB cc =>
    simp only [sh1] at he
    split at he
    · rename_i a' c hq
      obtain ⟨h3, h4⟩ := ite_some' he
      subst h4
      obtain ⟨k, pc, rfl⟩ := exBool_ok h3
      obtain ⟨p, rfl⟩ := exCmp1_ok hq
      exact se_op1 (r := fun x H Q => ∃ a b, x = .bl a ∧ V.bl cc = .bl b ∧ Q (.bl (!decide (a = b))) H) (fun ta h => pe_cmpR op_isnot_bl h pe_bl rfl) (sv_notB _) ha
    · cases he
  | rev =>
    simp only [sh1] at he
    obtain ⟨k, p1, p2, p3, p, rfl⟩ := exRev_ok he
    exact se_op1 (fun ta h => pe_revL h) sv_rev ha
  | bitlen =>
    simp only [sh1] at he
    split at he
    · rename_i a' m hq
      obtain ⟨h3, h4⟩ := ite_some' he
      subst h4
      obtain ⟨p, q, rfl, hl⟩ := exMeth_ok hq
      simp only [Bool.and_eq_true, beq_iff_eq] at h3
      obtain ⟨rfl, h6⟩ := h3
      exact se_op1 (fun ta h => pe_bits h (attr_base h6) hl) sv_bits ha
    · cases he
  | maxL => simp [sh1, Op1.nm] at he
  | minL => simp [sh1, Op1.nm] at he
end
end MP

set_option Elab.async false
set_option linter.all false
set_option maxRecDepth 100000
set_option maxHeartbeats 2000000
set_option autoImplicit false
/-! MP, part j: operations of two values by their syntax; calls of the program's functions -/
namespace MP
open PySem PySem.Spec PyProof.Rows L2

def sh2 (P : Pg) (S : SC) (o : Op2) (e : Expr) : Option (Expr × Expr) := match o with
  | .idx => match exSub e with
    | some (a, c) => if exSl c then none else some (a, c)
    | _ => none
  | .min => match exCall e with
    | some (x, [a, c]) => if (x == "min" && bi P S "min") && (!exStar a && !exStar c) then some (a, c) else none
    | _ => none
  | .max => match exCall e with
    | some (x, [a, c]) => if (x == "max" && bi P S "max") && (!exStar a && !exStar c) then some (a, c) else none
    | _ => none
  | .count => match exMeth e with
    | some (a, m, [c]) => if (m == "count" && notSuper a) && !exStar c then some (a, c) else none
    | _ => none
  | .join => match exMeth e with
    | some (a, m, [c]) => if (m == "join" && notSuper a) && !exStar c then some (a, c) else none
    | _ => none
  | o => match o.bin with
    | some op => match exBin e with
      | some (a, op', c) => if op' == op then some (a, c) else none
      | _ => none
    | none => match o.cmp, exCmp1 e with
      | some op, some (a, op', c) => if op' == op && !exSet c then some (a, c) else none
      | _, _ => none
section
variable {T : Tb} {P : Pg} {R : MP.Env} {adr : Nat → Addr} {n : Nat} {X : Cx} {S : SC} {W : WX} {b : Bool} {K : Frag}
theorem sv_idx : Serves2 T K (rIx K) (op2 .idx) := by
  intro G H M x y z v w Q hM hx hy e k
  cases x <;> cases y <;> simp [op2] at e
  · obtain ⟨c, d, e, ez⟩ := e
    subst ez
    rw [hx.str, hy.int]
    exact .inr (.inr ⟨_, _, d, rfl, rfl, c, e, k.here hM (.str _)⟩)
  · obtain ⟨a, xs, rfl, ha, ra⟩ := hx.tup
    obtain ⟨u, e1, r1⟩ := ra.atI e
    rw [hy.int]
    exact .inr (.inl ⟨a, xs, _, u, rfl, rfl, ha, e1, k.here hM r1⟩)
  · obtain ⟨a, xs, rfl, ha, ra⟩ := hx.lstH
    obtain ⟨u, e1, r1⟩ := ra.atI e
    rw [hy.int]
    exact .inl ⟨a, xs, _, u, rfl, rfl, SqL.of ha, e1, k.here hM r1⟩
  · obtain ⟨d, e, ez⟩ := e
    subst ez
    obtain ⟨a, rfl, ha⟩ := hx.scr
    rw [hy.int]
    refine .inl ⟨a, _, _, .int d, rfl, rfl, ha, ?_, k.here hM (.int _)⟩
    unfold L2.atI at e ⊢
    rw [List.length_map]
    cases q : ixN _ _ with
    | none => rw [q] at e; cases e
    | some j =>
      rw [q] at e
      show (List.map V.int _)[j]? = _
      have e : _[j]? = some d := e
      rw [List.getElem?_map, e]; rfl
theorem sv_min : Serves2 T K (fun x y H Q => ∃ i j, [x, y] = [.int i, .int j] ∧ Q (.int (if j < i then j else i)) H) (op2 .min) := by
  intro G H M x y z v w Q hM hx hy e k
  cases x <;> cases y <;> simp [op2] at e
  subst e
  rw [hx.int, hy.int]
  exact ⟨_, _, rfl, k.here hM (.int _)⟩
theorem sv_max : Serves2 T K (fun x y H Q => ∃ i j, [x, y] = [.int i, .int j] ∧ Q (.int (if j > i then j else i)) H) (op2 .max) := by
  intro G H M x y z v w Q hM hx hy e k
  cases x <;> cases y <;> simp [op2] at e
  subst e
  rw [hx.int, hy.int]
  exact ⟨_, _, rfl, k.here hM (.int _)⟩
theorem sv_count : Serves2 T K (fun x y H Q => ∃ a b, x = .str a ∧ [y] = [.str b] ∧ Q (.int (Txt.count a b)) H) (op2 .count) := by
  intro G H M x y z v w Q hM hx hy e k
  cases x <;> cases y <;> simp [op2] at e
  subst e
  rw [hx.str, hy.str]
  exact ⟨_, _, rfl, rfl, k.here hM (.int _)⟩
theorem sv_join : Serves2 T K (fun x y H Q => ∃ a p, ∃ ys : List Str, x = .str a ∧ [y] = [.ref p] ∧ (SqL K H p (ys.map V.str) ∨ SqT K H p (ys.map V.str)) ∧ (ys.map (·.length)).sum + ys.length * a.length ≤ 16777216 ∧ Q (.str (Txt.join a ys)) H) (op2 .join) := by
  intro G H M x y z v w Q hM hx hy e k
  cases x with
  | str x =>
    cases y with
    | lst l =>
      have e : ((l.mapM D.str?).bind fun ys => if (ys.map (·.length)).sum + ys.length * x.length ≤ 16777216 then some (D.str (Txt.join x ys)) else none) = some z := e
      cases q : l.mapM D.str? with
      | none => rw [q] at e; cases e
      | some ys =>
        rw [q] at e
        have e : (if (ys.map (·.length)).sum + ys.length * x.length ≤ 16777216 then some (D.str (Txt.join x ys)) else none) = some z := e
        by_cases c : (ys.map (·.length)).sum + ys.length * x.length ≤ 16777216
        · rw [if_pos c] at e
          cases e
          obtain ⟨a, xs, rfl, ha, ra⟩ := hy.lstH
          have := ra.strs q
          subst this
          rw [hx.str]
          exact ⟨_, a, ys, rfl, rfl, .inl (SqL.of ha), c, k.here hM (.str _)⟩
        · rw [if_neg c] at e; cases e
    | _ => cases e
  | _ => cases y <;> simp [op2] at e
def Op2.noRcv : Op2 → Bool
  | .count => false
  | .join => false
  | _ => true
theorem rcv_true {o : Op2} (h : o.noRcv = true) (d : D) : o.rcv d = true := by cases o <;> first | rfl | cases h
theorem se_2r {o : Op2} {e a c : Expr} {r : R2} {ea ec : Sl → MH → Res D} (ho : o.noRcv = true) (rule : ∀ ta tb, PE X a ta → PE X c tb → PE X e (tOp r ta tb)) (sv : Serves2 T X.K r (op2 o)) (ha : PE X a (tE T X.K W ea true)) (hc : PE X c (tE T X.K W ec true)) :
    PE X e (tE T X.K W (fun s M => (ea s M).bind fun x M => if o.rcv (rs s M x) then (ec s M).bind fun y M => .opt (op2 o (rs s M x) (rs s M y)) M else .bad) b) := by
  have h := se_op2 (b := b) rule sv ha hc
  have e : (fun (s : Sl) (M : MH) => (ea s M).bind fun x M => if o.rcv (rs s M x) = true then (ec s M).bind fun y M => Res.opt (op2 o (rs s M x) (rs s M y)) M else .bad) = (fun s M => (ea s M).bind fun x M => (ec s M).bind fun y M => .opt (op2 o (rs s M x) (rs s M y)) M) := by
    funext s M
    congr 1
    funext x M1
    rw [if_pos (rcv_true ho _)]
  rw [e]
  exact h
theorem CmpOp.eq_of {a b : CmpOp} (h : (a == b) = true) : a = b := by cases a <;> cases b <;> first | rfl | (exact absurd h (by decide))
theorem Opr.eq_of {a b : Operator} (h : (a == b) = true) : a = b := by cases a <;> cases b <;> first | rfl | (exact absurd h (by decide))
theorem se_2 {o : Op2} {e a c : Expr} {ea ec : Sl → MH → Res D} (pr : PrOk T P R adr n X.prog X.w X.K X.mg X.base) (xo : XOk S n X W) (he : sh2 P S o e = some (a, c)) (ha : PE X a (tE T X.K W ea true)) (hc : PE X c (tE T X.K W ec true)) :
    PE X e (tE T X.K W (fun s M => (ea s M).bind fun x M => if o.rcv (rs s M x) then (ec s M).bind fun y M => .opt (op2 o (rs s M x) (rs s M y)) M else .bad) b) := by
  have gen : (match o.bin with
    | some op => match exBin e with
      | some (a, op', c) => if op' == op then some (a, c) else none
      | _ => none
    | none => match o.cmp, exCmp1 e with
      | some op, some (a, op', c) => if op' == op && !exSet c then some (a, c) else none
      | _, _ => none) = some (a, c) → o.noRcv = true → PE X e (tE T X.K W (fun s M => (ea s M).bind fun x M => if o.rcv (rs s M x) then (ec s M).bind fun y M => .opt (op2 o (rs s M x) (rs s M y)) M else .bad) b) := fun he ho => by
    cases hb : o.bin with
    | some op =>
      rw [hb] at he
      dsimp only at he
      split at he
      · rename_i a' op' c' hq
        obtain ⟨h1, h2⟩ := ite_some' he
        cases h2
        obtain ⟨p, rfl⟩ := exBin_ok hq
        have := Opr.eq_of h1
        subst this
        obtain ⟨r, hr, sv⟩ := op2_bin (hu := xo.units) (T := T) o op' hb
        exact se_2r ho (fun ta tb h1 h2 => pe_op hr h1 h2) sv ha hc
      · cases he
    | none =>
      rw [hb] at he
      dsimp only at he
      cases hc' : o.cmp with
      | none => rw [hc'] at he; cases he
      | some op =>
        rw [hc'] at he
        split at he
        · rename_i op1 a' op' c' hq1 hq
          cases hq1
          obtain ⟨h1, h2⟩ := ite_some' he
          cases h2
          obtain ⟨p, rfl⟩ := exCmp1_ok hq
          obtain ⟨h3, h4⟩ := Bool.and_eq_true_iff.mp h1
          have := CmpOp.eq_of h3
          subst this
          obtain ⟨r, hr, sv⟩ := op2_cmp (T := T) xo.units o op' hc'
          exact se_2r ho (fun ta tb h1 h2 => pe_cmpR hr h1 h2 (noSet (by simpa using h4))) sv ha hc
        · cases he
  cases o with
  | idx =>
    simp only [sh2] at he
    split at he
    · rename_i a' c' hq
      by_cases h : exSl c' = true
      · rw [if_pos h] at he; cases he
      · rw [if_neg h] at he
        cases he
        obtain ⟨p, rfl⟩ := exSub_ok hq
        exact se_2r rfl (fun ta tb h1 h2 => pe_ix ix_seq h1 h2 (noSl (by simpa using h))) sv_idx ha hc
    · cases he
  | min =>
    simp only [sh2] at he
    split at he
    · rename_i x a' c' hq
      obtain ⟨h1, h2⟩ := ite_some' he
      cases h2
      simp only [Bool.and_eq_true, beq_iff_eq, Bool.not_eq_true'] at h1
      obtain ⟨⟨h5, h6⟩, h7, h8⟩ := h1
      subst h5
      exact se_2r rfl (rule_B2 (r := fun xs H Q => ∃ i j, xs = [.int i, .int j] ∧ Q (.int (if j < i then j else i)) H) pr xo hq h6 h7 h8 (call_min2 xo.calm) (by decide +kernel) (by decide) (by decide)) sv_min ha hc
    · cases he
  | max =>
    simp only [sh2] at he
    split at he
    · rename_i x a' c' hq
      obtain ⟨h1, h2⟩ := ite_some' he
      cases h2
      simp only [Bool.and_eq_true, beq_iff_eq, Bool.not_eq_true'] at h1
      obtain ⟨⟨h5, h6⟩, h7, h8⟩ := h1
      subst h5
      exact se_2r rfl (rule_B2 (r := fun xs H Q => ∃ i j, xs = [.int i, .int j] ∧ Q (.int (if j > i then j else i)) H) pr xo hq h6 h7 h8 (call_max2 xo.calm) (by decide +kernel) (by decide) (by decide)) sv_max ha hc
    · cases he
  | count =>
    simp only [sh2] at he
    split at he
    · rename_i a' m c' hq
      obtain ⟨h1, h2⟩ := ite_some' he
      cases h2
      simp only [Bool.and_eq_true, beq_iff_eq, Bool.not_eq_true'] at h1
      obtain ⟨⟨h5, h6⟩, h7⟩ := h1
      subst h5
      obtain ⟨p, q, rfl, hl⟩ := exMeth_ok hq
      exact se_m1 (fun ta tb h1 h2 => pe_m1 F.slot_str_count F.type_str_count mt_count h1 h2 (star_cons h7) (attr_base h6) hl) sv_count ha hc
    · cases he
  | join =>
    simp only [sh2] at he
    split at he
    · rename_i a' m c' hq
      obtain ⟨h1, h2⟩ := ite_some' he
      cases h2
      simp only [Bool.and_eq_true, beq_iff_eq, Bool.not_eq_true'] at h1
      obtain ⟨⟨h5, h6⟩, h7⟩ := h1
      subst h5
      obtain ⟨p, q, rfl, hl⟩ := exMeth_ok hq
      exact se_m1 (fun ta tb h1 h2 => pe_m1 F.slot_str_join F.type_str_join mt_join h1 h2 (star_cons h7) (attr_base h6) hl) sv_join ha hc
    · cases he
  | add => exact gen he rfl
  | sub => exact gen he rfl
  | mul => exact gen he rfl
  | fdiv => exact gen he rfl
  | mod => exact gen he rfl
  | pow => exact gen he rfl
  | band => exact gen he rfl
  | bor => exact gen he rfl
  | bxor => exact gen he rfl
  | shl => exact gen he rfl
  | shr => exact gen he rfl
  | eq => exact gen he rfl
  | ne => exact gen he rfl
  | lt => exact gen he rfl
  | le => exact gen he rfl
  | gt => exact gen he rfl
  | ge => exact gen he rfl
  | in_ => exact gen he rfl
  | nin => exact gen he rfl

/-! ### calls of the program's functions -/
theorem sp_ok {f : Nat} {G : Gh} {H : Hp} {M : MH} {ds : List D} {vs : List V} {k : Nat} {σ : L2.St} {Q : VK} {rep : Gh → Hp → MH → D → V → Prop} (pr : PrOk T P R adr n X.prog X.w X.K X.mg X.base) (hk : P.ar[f]? = some k) (hM : RelM T.C X.K G H M) (r : Reps X.K G H ds vs)
    (hr : ∀ G H M d v, Rep X.K G H d v → rep G H M d v) (h : Kont T X.K W σ G H (R.call f ds M) rep Q) : spM T X.K R f k vs H Q (WE W σ) := by
  by_cases hl : P.ar[f]? = some ds.length
  · refine ⟨G, M, ds, hM, r, ?_, ?_⟩
    · rw [hk] at hl; exact (Option.some.inj hl).symm
    · cases q : R.call f ds M with
      | ok d M' => rw [q] at h; exact fun G' H' v e m r => h G' H' v e m (hr _ _ _ _ _ r)
      | exc c fs M' => rw [q] at h; exact h
      | bad => rw [q] at h; exact h
  · rw [pr.ar f ds M hl] at h; exact h.elim
theorem se_call {f k : Nat} {e : Expr} {x : Str} {es : List Expr} {ms : MEs} (pr : PrOk T P R adr n X.prog X.w X.K X.mg X.base) (xo : XOk S n X W) (he : exCall e = some (x, es)) (hf : P.fns[f]? = some (some x)) (hk : P.ar[f]? = some k) (hg : isGl S x = true) (hd : (x == ("__debug__" : Str)) = false)
    (hs : plainEs es = true) (hz : es = [] → ms = .nil) (ha : PA X es (tEs T X.K W fun s M => evEs R s ms M)) : PE X e (tE T X.K W (fun s M => evE R b s (.call f ms) M) b) := by
  obtain ⟨p, q, rfl⟩ := exCall_ok he
  obtain ⟨fd, ps, hps, hbi, F⟩ := pr.fn f k hk
  cases es with
  | nil =>
    have := hz rfl
    subst this
    refine ⟨fun pins s σ H Q I h => ?_⟩
    refine wpAny_Call_Name_kw (ld_glob I (xo.gl (isGl_ok hg)) (pr.nm f x hf) ?_ hd)
    refine PySem.W.callWith_K0 I.kIn (pr.kp f k hk) (run_fnS (us := []) (E := WE W) F xo.room hbi (passAt xo.tk σ) I .nil ?_)
    obtain ⟨G, s', M, hM, hS, h⟩ := h
    simp only [evE, evEs, Res.bind_ok] at h
    exact sp_ok pr hk hM .nil (fun _ _ _ _ _ r => .inl r) h
  | cons e es =>
    rw [show plainEs (e :: es) = (!exStar e && plainEs es) from rfl, Bool.and_eq_true] at hs
    have hst : exStar e = false := by simpa using hs.1
    refine (pe_callS F xo.room (xo.gl (isGl_ok hg)) (pr.nm f x hf) (pr.kp f k hk) hbi (fun σ => passAt xo.tk σ) ha hd (star_cons hst) (star_any hs.2)).weak fun σ H Q ⟨G, s, M, hM, hS, h⟩ => ?_
    simp only [evE] at h
    refine ⟨G, s, M, hM, hS, h.bind fun ds M1 G1 H1 vs _ e1 m1 r h1 => ?_⟩
    exact sp_ok pr hk m1 r (fun _ _ _ _ _ r => .inl r) h1
end
end MP

set_option Elab.async false
set_option linter.all false
set_option maxRecDepth 100000
set_option maxHeartbeats 2000000
set_option autoImplicit false
/-! MP, part k: what a loop walks -/
namespace MP
open PySem PySem.Spec PyProof.Rows L2

theorem _root_.L2.PI.weak {X : Cx} {tg e : Expr} {t t' : TI} (h : PI X tg e t) (w : ∀ σ H Q, t' σ H Q → t σ H Q) : PI X tg e t' := ⟨fun pins s σ H Q I q => h.run pins s σ H Q I (w σ H Q q)⟩
/-- a list, a tuple or a text -/
def iSeq (K : PySem.W.Frag) (te : TE) : TI := fun σ H R => te σ H fun v H1 => (∃ a xs, v = .ref a ∧ SqL K H1 a xs ∧ R (Itl K a) H1) ∨ (∃ a xs, v = .ref a ∧ SqT K H1 a xs ∧ R (Itt K a) H1) ∨ ∃ x, v = .str x ∧ R (Its x) H1
theorem pi_seq {X : Cx} {tg e : Expr} {te : TE} (he : PE X e te) : PI X tg e (iSeq X.K te) := by
  refine ⟨fun pins s σ H R I h => ?_⟩
  refine thn (he.run pins s σ H _ I h) fun v s1 ⟨y, H1, I1, r1, q⟩ => ?_
  rcases q with ⟨a, xs, ex, hq, q⟩ | ⟨a, xs, ex, hq, q⟩ | ⟨x, ex, q⟩
  · subst ex
    cases r1
    obtain ⟨its, rv, p, hz⟩ := I1.list hq
    exact wpAny_pyIter_list p.isList (pi_one (tk := s1.toks) I1 _ (turn_list a _) ⟨_, Heap.get?_push_size _ rfl, rfl, rfl⟩ q)
  · subst ex
    cases r1
    obtain ⟨its, rv, p, hz⟩ := I1.tuple hq
    exact wpAny_pyIter_tuple (show s1.heap.IsTuple a its.toArray from p) (pi_one (tk := s1.toks) I1 _ (turn_tuple a _) ⟨_, Heap.get?_push_size _ rfl, rfl, rfl⟩ q)
  · subst ex
    obtain ⟨t, rfl⟩ := r1
    cases ha : x.cps.all (· < 128)
    · exact wpAny_pyIter_wide ha (pi_one (tk := s1.toks) I1 _ (turn_str _ x t "str_iterator" (.inr rfl)) ⟨_, Heap.get?_push_size _ rfl, rfl, rfl⟩ q)
    · exact wpAny_pyIter_ascii ha (pi_one (tk := s1.toks) I1 _ (turn_str _ x t "str_ascii_iterator" (.inl rfl)) ⟨_, Heap.get?_push_size _ rfl, rfl, rfl⟩ q)

/-- what must be left as it was while it is walked -/
def Src (x : D) (l : List D) (G0 : Gh) (H0 : Hp) (G : Gh) (H : Hp) (M : MH) : Prop := match x with
  | .ref r => M[r]? = some (.lst l)
  | .own _ => Ext G0 H0 G H
  | _ => True
def Srcs (ps : List (D × List D)) (G0 : Gh) (H0 : Hp) (G : Gh) (H : Hp) (M : MH) : Prop := ∀ q ∈ ps, Src q.1 q.2 G0 H0 G H M
/-- an iterator walks l -/
structure JW (T : Tb) (K : Frag) (J : It) (ps : List (D × List D)) (l : List D) (G0 : Gh) (H0 : Hp) : Prop where
  go : ∀ (i : Nat) G H M, Le G0 H0 G H → Srcs ps G0 H0 G H M → RelM T.C K G H M → i < l.length → J.go i H
  stop : ∀ G H M, Le G0 H0 G H → Srcs ps G0 H0 G H M → RelM T.C K G H M → J.stop l.length H
  yld : ∀ (i : Nat) d G H M v H', Le G0 H0 G H → Srcs ps G0 H0 G H M → RelM T.C K G H M → l[i]? = some d → J.yld i H v H' → ∃ G', Ext G H G' H' ∧ RelM T.C K G' H' M ∧ Rep K G' H' d v
section
variable {T : Tb} {P : Pg} {R : MP.Env} {adr : Nat → Addr} {n : Nat} {X : Cx} {S : SC} {W : WX} {b : Bool} {K : Frag}
def repI (T : Tb) (K : Frag) : Gh → Hp → MH → List (D × List D) × List D → It → Prop := fun G H _ p J => JW T K J p.1 p.2 G H
def tI (T : Tb) (K : Frag) (W : WX) (ev : Sl → MH → Res (List (D × List D) × List D)) : TI := fun σ H Q => ∃ G s M, RelM T.C K G H M ∧ RelS K G H σ s ∧ Kont T K W σ G H (ev s M) (repI T K) Q
theorem Srcs.one {q : D × List D} {ps : List (D × List D)} {G0 : Gh} {H0 : Hp} {G : Gh} {H : Hp} {M : MH} (h : Srcs (q :: ps) G0 H0 G H M) : Src q.1 q.2 G0 H0 G H M := h q (List.mem_cons_self ..)
theorem Srcs.two {q r : D × List D} {ps : List (D × List D)} {G0 : Gh} {H0 : Hp} {G : Gh} {H : Hp} {M : MH} (h : Srcs (q :: r :: ps) G0 H0 G H M) : Src r.1 r.2 G0 H0 G H M := h r (List.mem_cons_of_mem _ (List.mem_cons_self ..))
/-- a list of the tracked heap, walked -/
theorem jw_list {a : Addr} {ps : List (D × List D)} {l : List D} {G0 : Gh} {H0 : Hp} (h : ∀ G H M, Le G0 H0 G H → Srcs ps G0 H0 G H M → RelM T.C K G H M → ∃ xs, SqL K H a xs ∧ Reps K G H l xs) : JW T K (Itl K a) ps l G0 H0 where
  go := fun i G H M e s m hi => by
    obtain ⟨xs, h1, r⟩ := h G H M e s m
    have hx : i < xs.length := by rw [← r.length]; exact hi
    exact ⟨xs, xs[i], h1, List.getElem?_eq_getElem hx⟩
  stop := fun G H M e s m => by
    obtain ⟨xs, h1, r⟩ := h G H M e s m
    exact ⟨xs, h1, by rw [r.length]; exact Nat.le_refl _⟩
  yld := fun i d G H M v H' e s m hd y => by
    obtain ⟨xs, h1, r⟩ := h G H M e s m
    obtain ⟨e1, y⟩ := y
    subst e1
    obtain ⟨w, hw, rw'⟩ := r.get hd
    have := y xs h1
    rw [hw] at this
    cases this
    exact ⟨G, .refl, m, rw'⟩
theorem jw_tup {a : Addr} {ps : List (D × List D)} {l : List D} {G0 : Gh} {H0 : Hp} (h : ∀ G H M, Le G0 H0 G H → Srcs ps G0 H0 G H M → RelM T.C K G H M → ∃ xs, SqT K H a xs ∧ Reps K G H l xs) : JW T K (Itt K a) ps l G0 H0 where
  go := fun i G H M e s m hi => by
    obtain ⟨xs, h1, r⟩ := h G H M e s m
    have hx : i < xs.length := by rw [← r.length]; exact hi
    exact ⟨xs, xs[i], h1, List.getElem?_eq_getElem hx⟩
  stop := fun G H M e s m => by
    obtain ⟨xs, h1, r⟩ := h G H M e s m
    exact ⟨xs, h1, by rw [r.length]; exact Nat.le_refl _⟩
  yld := fun i d G H M v H' e s m hd y => by
    obtain ⟨xs, h1, r⟩ := h G H M e s m
    obtain ⟨e1, y⟩ := y
    subst e1
    obtain ⟨w, hw, rw'⟩ := r.get hd
    have := y xs h1
    rw [hw] at this
    cases this
    exact ⟨G, .refl, m, rw'⟩
theorem jw_str {x : Str} {y : List (D × List D)} {G0 : Gh} {H0 : Hp} : JW T K (Its x) y (x.cps.toList.map fun c => .str ⟨#[c]⟩) G0 H0 where
  go := fun i G H M e s m hi => by
    have hi : i < x.cps.size := by simpa using hi
    exact hi
  stop := fun G H M e s m => by
    show x.cps.size ≤ _
    simp
  yld := fun i d G H M v H' e s m hd y => by
    obtain ⟨e1, c, hc, ev⟩ := y
    subst e1; subst ev
    rw [List.getElem?_map, Array.getElem?_toList, hc] at hd
    cases hd
    exact ⟨G, .refl, m, .str _⟩
theorem rngL_get {a c : Int} {n i : Nat} {d : D} (h : (rngL a n c)[i]? = some d) : d = .int (a + (i : Int) * c) := by
  unfold rngL at h
  rw [List.getElem?_map] at h
  cases q : (List.range n)[i]? with
  | none => rw [q] at h; cases h
  | some j =>
    rw [q] at h
    have := List.getElem?_eq_some_iff.mp q
    obtain ⟨_, e⟩ := this
    simp at e
    subst e
    exact (Option.some.inj h).symm
theorem jw_rng {a : Int} {n : Nat} {y : List (D × List D)} {G0 : Gh} {H0 : Hp} : JW T K (Itr a n) y (rngL a n 1) G0 H0 where
  go := fun i G H M e s m hi => by
    unfold rngL at hi
    rw [List.length_map, List.length_range] at hi
    exact hi
  stop := fun G H M e s m => by
    unfold rngL
    rw [List.length_map, List.length_range]
    exact Nat.le_refl _
  yld := fun i d G H M v H' e s m hd y => by
    obtain ⟨e1, ev⟩ := y
    subst e1; subst ev
    rw [rngL_get hd, Int.mul_one]
    exact ⟨G, .refl, m, .int _⟩
theorem jw_rngC {a c : Int} {n : Nat} {y : List (D × List D)} {G0 : Gh} {H0 : Hp} : JW T K (Itc a c n) y (rngL a n c) G0 H0 where
  go := fun i G H M e s m hi => by
    unfold rngL at hi
    rw [List.length_map, List.length_range] at hi
    exact hi
  stop := fun G H M e s m => by
    unfold rngL
    rw [List.length_map, List.length_range]
    exact Nat.le_refl _
  yld := fun i d G H M v H' e s m hd y => by
    obtain ⟨e1, ev⟩ := y
    subst e1; subst ev
    rw [rngL_get hd]
    exact ⟨G, .refl, m, .int _⟩
/-! ### walked values -/
/-- where a walked list stands, now and later -/
theorem src_list {σ : L2.St} {s : Sl} {G : Gh} {H : Hp} {M : MH} {x : D} {v : V} {l : List D} (hM : RelM T.C K G H M) (hS : RelS K G H σ s) (h : repB K σ s true G H M x v) (e : rs s M x = .lst l) :
    ∃ a, v = .ref a ∧ ∀ G2 H2 M2, Le G H G2 H2 → Src x l G H G2 H2 M2 → RelM T.C K G2 H2 M2 → ∃ xs, SqL K H2 a xs ∧ Reps K G2 H2 l xs := by
  rcases h with h | ⟨_, i, l', rfl, e1, e2⟩
  · cases h with
    | ref e0 =>
      rename_i r a
      refine ⟨a, rfl, fun G2 H2 M2 le sr m2 => ?_⟩
      obtain ⟨xs, h1, r1⟩ := m2.ob r a _ (le.mu r a e0) sr
      exact ⟨xs, SqL.of h1, r1⟩
    | non => cases e
    | bl b => cases e
    | int i => cases e
    | str x => cases e
    | tup h r => cases e
    | lst h h2 r =>
      cases e
      exact ⟨_, rfl, fun G2 H2 M2 le _ _ => ⟨_, SqL.of (by rw [le.fl _ h]; exact h2), r.le le⟩⟩
    | scr h => cases e
  · obtain ⟨a, xs, h1, h2, h3, h4, _⟩ := hS.own i l' e1
    rw [h1] at e2
    cases e2
    have e : (match s[i]? with
      | some (.own l) => D.lst l
      | _ => .own i) = .lst l := e
    rw [e1] at e
    cases e
    refine ⟨a, rfl, fun G2 H2 M2 le sr m2 => ?_⟩
    have sr : Ext G H G2 H2 := sr
    exact ⟨xs, SqL.of (sr.keep a _ h2 h4), h3.le le⟩
theorem rs_flat {s : Sl} {M : MH} {x d : D} (e : rs s M x = d) (h : ∀ l, d ≠ .lst l) (hr : ∀ r, d ≠ .ref r) (ho : ∀ i, d ≠ .own i) : x = d := by
  cases x with
  | ref r =>
    have e : (match M[r]? with
      | some (.lst l) => D.lst l
      | _ => .ref r) = d := e
    split at e
    · exact absurd e.symm (h _)
    · exact absurd e.symm (hr _)
  | own i =>
    have e : (match s[i]? with
      | some (.own l) => D.lst l
      | _ => .own i) = d := e
    split at e
    · exact absurd e.symm (h _)
    · exact absurd e.symm (ho _)
  | _ => exact e
theorem src_tup {σ : L2.St} {s : Sl} {G : Gh} {H : Hp} {M : MH} {x : D} {v : V} {l : List D} (hM : RelM T.C K G H M) (hS : RelS K G H σ s) (h : repB K σ s true G H M x v) (e : rs s M x = .tup l) :
    ∃ a xs, v = .ref a ∧ SqT K H a xs ∧ ∀ G2 H2, Le G H G2 H2 → ∃ xs, SqT K H2 a xs ∧ Reps K G2 H2 l xs := by
  have ex := rs_flat e (by simp) (by simp) (by simp)
  subst ex
  rcases h with h | ⟨_, i, l', ex, _⟩
  · cases h with
    | tup h r => exact ⟨_, _, rfl, h, fun G2 H2 le => ⟨_, le.sqT h, r.le le⟩⟩
  · cases ex
theorem src_str {σ : L2.St} {s : Sl} {G : Gh} {H : Hp} {M : MH} {x : D} {v : V} {l : Str} (hM : RelM T.C K G H M) (hS : RelS K G H σ s) (h : repB K σ s true G H M x v) (e : rs s M x = .str l) : v = .str l := by
  have h := repB_rs hM hS h
  rw [e] at h
  exact h.str
theorem si_seq {tg e : Expr} {ma : ME} (ha : PE X e (tE T X.K W (fun s M => evE R true s ma M) true)) : PI X tg e (tI T X.K W fun s M => evI R s (.seq ma) M) := by
  refine (pi_seq ha).weak fun σ H Q ⟨G, s, M, hM, hS, h⟩ => ?_
  simp only [evI] at h
  refine ⟨G, s, M, hM, hS, h.bind fun x M1 G1 H1 v _ e1 m1 rx h1 => ?_⟩
  obtain ⟨l, el, h2⟩ := h1.optb
  have hS1 := hS.mono e1
  cases q : rs s M1 x with
  | tup l' =>
    rw [q] at el
    cases el
    obtain ⟨a, xs, ev, hq, hr⟩ := src_tup m1 hS1 rx q
    exact .inr (.inl ⟨a, xs, ev, hq, h2 G1 H1 _ .refl m1 (jw_tup fun G2 H2 M2 le _ _ => hr G2 H2 le)⟩)
  | lst l' =>
    rw [q] at el
    cases el
    obtain ⟨a, xs, ev, hq, _⟩ := (by have := repB_rs m1 hS1 rx; rw [q] at this; exact this.lstH : ∃ a xs, v = .ref a ∧ H1 a = some (.lst xs) ∧ Reps X.K G1 H1 l xs)
    obtain ⟨a', ev', hr⟩ := src_list m1 hS1 rx q
    rw [ev] at ev'
    cases ev'
    exact .inl ⟨a, xs, ev, SqL.of hq, h2 G1 H1 _ .refl m1 (jw_list fun G2 H2 M2 le sr m2 => hr G2 H2 M2 le sr.one m2)⟩
  | str z =>
    rw [q] at el
    have el : (if z.length ≤ sizeLine then some (z.cps.toList.map fun c => D.str ⟨#[c]⟩) else none) = some l := el
    by_cases hz : z.length ≤ sizeLine
    · rw [if_pos hz] at el
      cases el
      exact .inr (.inr ⟨z, src_str m1 hS1 rx q, h2 G1 H1 _ .refl m1 jw_str⟩)
    · rw [if_neg hz] at el; cases el
  | _ => rw [q] at el; cases el
end
end MP

set_option Elab.async false
set_option linter.all false
set_option maxRecDepth 100000
set_option maxHeartbeats 2000000
set_option autoImplicit false
/-! MP, part l: range, zip, enumerate -/
namespace MP
open PySem PySem.Spec PyProof.Rows L2
section
variable {T : Tb} {P : Pg} {R : MP.Env} {adr : Nat → Addr} {n : Nat} {X : Cx} {S : SC} {W : WX} {b : Bool} {K : Frag}
theorem rngOk_ok {i : Int} (h : rngOk i = true) : -(2 ^ 62) ≤ i ∧ i < 2 ^ 62 := by
  unfold rngOk at h
  simpa using h
theorem not_own {σ : L2.St} {s : Sl} {G : Gh} {H : Hp} {M : MH} {x : D} {v : V} (h : repB K σ s false G H M x v) : Rep K G H x v := h.elim id fun z => absurd z.1 (by simp)
theorem si_rng1 {tg e a : Expr} {ma : ME} (pr : PrOk T P R adr n X.prog X.w X.K X.mg X.base) (xo : XOk S n X W) (he : exCall e = some (("range" : Str), [a])) (hb : bi P S "range" = true) (hs : exStar a = false) (ha : PE X a (tE T X.K W (fun s M => evE R false s ma M) false)) :
    PI X tg e (tI T X.K W fun s M => evI R s (.rng1 ma) M) := by
  obtain ⟨p, q, rfl⟩ := exCall_ok he
  obtain ⟨h1, h2⟩ := bi_ok pr xo hb
  refine (pi_range1 h1 h2 (pa_cons ha pa_nil (star_cons hs)) (star_cons hs)).weak fun σ H Q ⟨G, s, M, hM, hS, h⟩ => ?_
  simp only [evI] at h
  refine ⟨G, s, M, hM, hS, h.bind fun x M1 G1 H1 v _ e1 m1 rx h1 => ?_⟩
  have rx := not_own rx
  cases x with
  | int i =>
    cases rx
    dsimp only at h1
    by_cases hr : rngOk i = true
    · rw [if_pos hr] at h1
      obtain ⟨r1, r2⟩ := rngOk_ok hr
      exact ⟨i, rfl, r1, r2, h1 G1 H1 _ .refl m1 jw_rng⟩
    · rw [if_neg hr] at h1; exact h1.elim
  | _ => exact h1.elim
theorem si_rng2 {tg e a c : Expr} {ma mc : ME} (pr : PrOk T P R adr n X.prog X.w X.K X.mg X.base) (xo : XOk S n X W) (he : exCall e = some (("range" : Str), [a, c])) (hb : bi P S "range" = true) (hs : exStar a = false) (hs2 : exStar c = false)
    (ha : PE X a (tE T X.K W (fun s M => evE R false s ma M) false)) (hc : PE X c (tE T X.K W (fun s M => evE R false s mc M) false)) :
    PI X tg e (tI T X.K W fun s M => evI R s (.rng2 ma mc) M) := by
  obtain ⟨p, q, rfl⟩ := exCall_ok he
  obtain ⟨h1, h2⟩ := bi_ok pr xo hb
  refine (pi_range2 h1 h2 (pa_cons ha (pa_cons hc pa_nil (star_cons hs2)) (star_cons hs)) (by rw [star_cons hs, star_cons hs2]; rfl) (star_cons hs2)).weak fun σ H Q ⟨G, s, M, hM, hS, h⟩ => ?_
  simp only [evI] at h
  refine ⟨G, s, M, hM, hS, h.bind fun x M1 G1 H1 v _ e1 m1 rx h1 => ⟨G1, s, M1, m1, hS.mono e1, h1.bind fun y M2 G2 H2 w _ e2 m2 ry h2 => ?_⟩⟩
  have rx := not_own rx
  have ry := not_own ry
  cases x with
  | int i =>
    cases y with
    | int j =>
      cases rx
      cases ry
      dsimp only at h2
      by_cases hr : (rngOk i && rngOk j) = true
      · rw [if_pos hr] at h2
        obtain ⟨r1, r2⟩ := Bool.and_eq_true_iff.mp hr
        obtain ⟨r3, r4⟩ := rngOk_ok r1
        obtain ⟨r5, r6⟩ := rngOk_ok r2
        exact ⟨i, j, rfl, ⟨r3, r4, r5, r6⟩, h2 G2 H2 _ .refl m2 jw_rng⟩
      · rw [if_neg hr] at h2; exact h2.elim
    | _ => exact h2.elim
  | _ => exact h2.elim
/-! ### pairs -/
theorem jw_pair {J : It} {ps : List (D × List D)} {l : List D} {G0 : Gh} {H0 : Hp} (go : ∀ (i : Nat) G H M, Le G0 H0 G H → Srcs ps G0 H0 G H M → RelM T.C K G H M → i < l.length → J.go i H)
    (stop : ∀ G H M, Le G0 H0 G H → Srcs ps G0 H0 G H M → RelM T.C K G H M → J.stop l.length H)
    (yld : ∀ (i : Nat) d G H M v H', Le G0 H0 G H → Srcs ps G0 H0 G H M → RelM T.C K G H M → l[i]? = some d → J.yld i H v H' → ∃ T x y v1 v2, v = .ref T ∧ H T = none ∧ H' = upd H T (.tup [v1, v2]) ∧ d = .tup [x, y] ∧ Rep K G H x v1 ∧ Rep K G H y v2) : JW T K J ps l G0 H0 where
  go := go
  stop := stop
  yld := fun i d G H M v H' e s m hd y => by
    obtain ⟨T, x, y, v1, v2, rfl, hT, rfl, rfl, r1, r2⟩ := yld i d G H M v H' e s m hd y
    have ex := Ext.laid0 (o := .tup [v1, v2]) hT (m.nf hT)
    exact ⟨G, ex, m.laid hT, .tup (SqT.of upd_same) (.cons (r1.mono ex) (.cons (r2.mono ex) .nil))⟩
theorem pairs_get {l m : List D} {i : Nat} {d : D} (h : (pairs l m)[i]? = some d) : ∃ x y, l[i]? = some x ∧ m[i]? = some y ∧ d = .tup [x, y] := by
  unfold pairs at h
  rw [List.getElem?_map] at h
  cases q : (l.zip m)[i]? with
  | none => rw [q] at h; cases h
  | some p =>
    rw [q] at h
    rw [List.getElem?_zip_eq_some] at q
    exact ⟨p.1, p.2, q.1, q.2, (Option.some.inj h).symm⟩
theorem pairs_len (l m : List D) : (pairs l m).length = min l.length m.length := by simp [pairs]
theorem nums_get {l : List D} {i : Nat} {d : D} (h : (nums l)[i]? = some d) : ∃ y, l[i]? = some y ∧ d = .tup [.int i, y] := by
  unfold nums at h
  rw [List.getElem?_mapIdx] at h
  cases q : l[i]? with
  | none => rw [q] at h; cases h
  | some p =>
    rw [q] at h
    exact ⟨p, rfl, (Option.some.inj h).symm⟩
theorem jw_zipL {a c : Addr} {ps : List (D × List D)} {l m : List D} {G0 : Gh} {H0 : Hp} (h : ∀ G H M, Le G0 H0 G H → Srcs ps G0 H0 G H M → RelM T.C K G H M → (∃ xs, SqL K H a xs ∧ Reps K G H l xs) ∧ ∃ xs, SqL K H c xs ∧ Reps K G H m xs) : JW T K (Itz K a c) ps (pairs l m) G0 H0 := jw_pair
  (fun i G H M e s mm hi => by
    obtain ⟨⟨xs, h1, r1⟩, ys, h2, r2⟩ := h G H M e s mm
    rw [pairs_len] at hi
    have hx : i < xs.length := by rw [← r1.length]; omega
    have hy : i < ys.length := by rw [← r2.length]; omega
    exact ⟨xs, ys, _, _, h1, h2, List.getElem?_eq_getElem hx, List.getElem?_eq_getElem hy⟩)
  (fun G H M e s mm => by
    obtain ⟨⟨xs, h1, r1⟩, ys, h2, r2⟩ := h G H M e s mm
    refine ⟨xs, ys, h1, h2, ?_⟩
    rw [pairs_len, ← r1.length, ← r2.length]
    omega)
  (fun i d G H M v H' e s mm hd y => by
    obtain ⟨⟨xs, h1, r1⟩, ys, h2, r2⟩ := h G H M e s mm
    obtain ⟨x, z, hx, hz, ed⟩ := pairs_get hd
    obtain ⟨T, v1, v2, ev, hT, eH, q1, q2⟩ := y
    obtain ⟨w1, g1, k1⟩ := r1.get hx
    obtain ⟨w2, g2, k2⟩ := r2.get hz
    have := q1 xs h1
    rw [g1] at this
    cases this
    have := q2 ys h2
    rw [g2] at this
    cases this
    exact ⟨T, x, z, _, _, ev, hT, eH, ed, k1, k2⟩)
theorem jw_zipT {a c : Addr} {ps : List (D × List D)} {l m : List D} {G0 : Gh} {H0 : Hp} (h : ∀ G H M, Le G0 H0 G H → Srcs ps G0 H0 G H M → RelM T.C K G H M → (∃ xs, SqT K H a xs ∧ Reps K G H l xs) ∧ ∃ xs, SqT K H c xs ∧ Reps K G H m xs) : JW T K (RZ.ItzT K a c) ps (pairs l m) G0 H0 := jw_pair
  (fun i G H M e s mm hi => by
    obtain ⟨⟨xs, h1, r1⟩, ys, h2, r2⟩ := h G H M e s mm
    rw [pairs_len] at hi
    have hx : i < xs.length := by rw [← r1.length]; omega
    have hy : i < ys.length := by rw [← r2.length]; omega
    exact ⟨xs, ys, _, _, h1, h2, List.getElem?_eq_getElem hx, List.getElem?_eq_getElem hy⟩)
  (fun G H M e s mm => by
    obtain ⟨⟨xs, h1, r1⟩, ys, h2, r2⟩ := h G H M e s mm
    refine ⟨xs, ys, h1, h2, ?_⟩
    rw [pairs_len, ← r1.length, ← r2.length]
    omega)
  (fun i d G H M v H' e s mm hd y => by
    obtain ⟨⟨xs, h1, r1⟩, ys, h2, r2⟩ := h G H M e s mm
    obtain ⟨x, z, hx, hz, ed⟩ := pairs_get hd
    obtain ⟨T, v1, v2, ev, hT, eH, q1, q2⟩ := y
    obtain ⟨w1, g1, k1⟩ := r1.get hx
    obtain ⟨w2, g2, k2⟩ := r2.get hz
    have := q1 xs h1
    rw [g1] at this
    cases this
    have := q2 ys h2
    rw [g2] at this
    cases this
    exact ⟨T, x, z, _, _, ev, hT, eH, ed, k1, k2⟩)
theorem jw_enumL {a : Addr} {ps : List (D × List D)} {l : List D} {G0 : Gh} {H0 : Hp} (h : ∀ G H M, Le G0 H0 G H → Srcs ps G0 H0 G H M → RelM T.C K G H M → ∃ xs, SqL K H a xs ∧ Reps K G H l xs) : JW T K (Ite K a) ps (nums l) G0 H0 := jw_pair
  (fun i G H M e s mm hi => by
    obtain ⟨xs, h1, r1⟩ := h G H M e s mm
    have hx : i < xs.length := by rw [← r1.length]; simpa [nums] using hi
    exact ⟨xs, _, h1, List.getElem?_eq_getElem hx⟩)
  (fun G H M e s mm => by
    obtain ⟨xs, h1, r1⟩ := h G H M e s mm
    refine ⟨xs, h1, ?_⟩
    rw [← r1.length]
    simp [nums])
  (fun i d G H M v H' e s mm hd y => by
    obtain ⟨xs, h1, r1⟩ := h G H M e s mm
    obtain ⟨x, hx, ed⟩ := nums_get hd
    obtain ⟨T, v1, ev, hT, eH, q1⟩ := y
    obtain ⟨w1, g1, k1⟩ := r1.get hx
    have := q1 xs h1
    rw [g1] at this
    cases this
    exact ⟨T, _, x, _, _, ev, hT, eH, ed, .int _, k1⟩)
def exTupT : Expr → Bool | .Tuple _ _ _ => true | _ => false
theorem exTupT_ok {e : Expr} (h : exTupT e = true) : ∃ es k p, e = .Tuple es k p := by
  unfold exTupT at h; split at h
  · exact ⟨_, _, _, rfl⟩
  · cases h
theorem si_enum {tg e a : Expr} {ma : ME} (pr : PrOk T P R adr n X.prog X.w X.K X.mg X.base) (xo : XOk S n X W) (he : exCall e = some (("enumerate" : Str), [a])) (ht : exTupT tg = true) (hb : bi P S "enumerate" = true) (hs : exStar a = false)
    (ha : PE X a (tE T X.K W (fun s M => evE R true s ma M) true)) : PI X tg e (tI T X.K W fun s M => evI R s (.enum ma) M) := by
  obtain ⟨p, q, rfl⟩ := exCall_ok he
  obtain ⟨h1, h2⟩ := bi_ok pr xo hb
  obtain ⟨es, k, pt, rfl⟩ := exTupT_ok ht
  refine (pi_enum h1 h2 (pa_cons ha pa_nil (star_cons hs)) (star_cons hs)).weak fun σ H Q ⟨G, s, M, hM, hS, h⟩ => ?_
  simp only [evI] at h
  refine ⟨G, s, M, hM, hS, h.bind fun x M1 G1 H1 v _ e1 m1 rx h1 => ?_⟩
  have hS1 := hS.mono e1
  cases q : rs s M1 x with
  | lst l =>
    rw [q] at h1
    obtain ⟨a, xs, ev, hq, _⟩ := (by have := repB_rs m1 hS1 rx; rw [q] at this; exact this.lstH : ∃ a xs, v = .ref a ∧ H1 a = some (.lst xs) ∧ Reps X.K G1 H1 l xs)
    obtain ⟨a', ev', hr⟩ := src_list m1 hS1 rx q
    subst ev
    cases ev'
    exact ⟨a, xs, rfl, SqL.of hq, h1 G1 H1 _ .refl m1 (jw_enumL fun G2 H2 M2 le sr m2 => hr G2 H2 M2 le sr.one m2)⟩
  | _ => rw [q] at h1; exact h1.elim
theorem repB.le {σ : L2.St} {s : Sl} {G G1 : Gh} {H H1 : Hp} {M : MH} {x : D} {v : V} (h : repB K σ s b G H M x v) (e : Ext G H G1 H1) (M1 : MH) : repB K σ s b G1 H1 M1 x v := h.mono e
theorem si_zip {tg e a c : Expr} {ma mc : ME} (pr : PrOk T P R adr n X.prog X.w X.K X.mg X.base) (xo : XOk S n X W) (he : exCall e = some (("zip" : Str), [a, c])) (ht : exTupT tg = true) (hb : bi P S "zip" = true) (hs : exStar a = false) (hs2 : exStar c = false)
    (ha : PE X a (tE T X.K W (fun s M => evE R true s ma M) true)) (hc : PE X c (tE T X.K W (fun s M => evE R true s mc M) true)) : PI X tg e (tI T X.K W fun s M => evI R s (.zip ma mc) M) := by
  obtain ⟨p, q, rfl⟩ := exCall_ok he
  obtain ⟨h1, h2⟩ := bi_ok pr xo hb
  obtain ⟨es, k, pt, rfl⟩ := exTupT_ok ht
  refine (RZ.pi_zipA h1 h2 (pa_cons ha (pa_cons hc pa_nil (star_cons hs2)) (star_cons hs)) (star_cons hs) (by rw [star_cons hs2]; rfl)).weak fun σ H Q ⟨G, s, M, hM, hS, h⟩ => ?_
  simp only [evI] at h
  refine ⟨G, s, M, hM, hS, h.bind fun x M1 G1 H1 v _ e1 m1 rx h1 => ⟨G1, s, M1, m1, hS.mono e1, h1.bind fun y M2 G2 H2 w _ e2 m2 ry h2 => ?_⟩⟩
  have hS2 := (hS.mono e1).mono e2
  have rx := rx.le e2 M2
  have hx := repB_rs m2 hS2 rx
  have hy := repB_rs m2 hS2 ry
  cases q : rs s M2 x with
  | lst l =>
    cases q2 : rs s M2 y with
    | lst m =>
      rw [q, q2] at h2
      rw [q] at hx
      rw [q2] at hy
      obtain ⟨a, xs, ev, hq, _⟩ := hx.lstH
      obtain ⟨a', ev', hr⟩ := src_list m2 hS2 rx q
      subst ev
      cases ev'
      obtain ⟨c, ys, ew, hq2, _⟩ := hy.lstH
      obtain ⟨c', ew', hr2⟩ := src_list m2 hS2 ry q2
      subst ew
      cases ew'
      exact ⟨a, c, xs, ys, rfl, .inl ⟨SqL.of hq, SqL.of hq2, h2 G2 H2 _ .refl m2 (jw_zipL fun G3 H3 M3 le sr m3 => ⟨hr G3 H3 M3 le sr.one m3, hr2 G3 H3 M3 le sr.two m3⟩)⟩⟩
    | _ => rw [q, q2] at h2; exact h2.elim
  | tup l =>
    cases q2 : rs s M2 y with
    | tup m =>
      rw [q, q2] at h2
      obtain ⟨a, xs, ev, hq, hr⟩ := src_tup m2 hS2 rx q
      obtain ⟨c, ys, ew, hq2, hr2⟩ := src_tup m2 hS2 ry q2
      subst ev
      subst ew
      exact ⟨a, c, xs, ys, rfl, .inr ⟨hq, hq2, h2 G2 H2 _ .refl m2 (jw_zipT fun G3 H3 M3 le sr m3 => ⟨hr G3 H3 le, hr2 G3 H3 le⟩)⟩⟩
    | _ => rw [q, q2] at h2; exact h2.elim
  | _ => rw [q] at h2; exact h2.elim
end
end MP

set_option Elab.async false
set_option linter.all false
set_option maxRecDepth 100000
set_option maxHeartbeats 2000000
set_option autoImplicit false
/-! MP, part m: targets -/
namespace MP
open PySem PySem.Spec PyProof.Rows L2

mutual
def MG.ixs : MG → List Nat
  | .nm i => [i]
  | .tup gs => MGs.ixs gs
def MGs.ixs : MGs → List Nat
  | .nil => []
  | .cons g gs => g.ixs ++ gs.ixs
end
mutual
def chkG (S : SC) : MG → Expr → Bool
  | .nm i, .Name x _ => S.N[i]? == some x && isLoc S x
  | .tup gs, .Tuple es _ _ => chkGs S gs es
  | _, _ => false
def chkGs (S : SC) : MGs → List Expr → Bool
  | .nil, [] => true
  | .cons g gs, e :: es => !exStar e && (chkG S g e && chkGs S gs es)
  | _, _ => false
end
theorem each_len {env : PySem.Env} : ∀ es : List Expr, (assignEach es env).length = es.length
  | [] => rfl
  | e :: es => by
    have ih := each_len (env := env) es
    cases e <;> simp [assignEach, ih]
theorem each_cons {e : Expr} {es : List Expr} {env : PySem.Env} (h : exStar e = false) : assignEach (e :: es) env = (false, assign e env) :: assignEach es env := by
  cases e <;> first | rfl | (simp [exStar] at h)
theorem chkGs_star {S : SC} {env : PySem.Env} : ∀ {gs : MGs} {es : List Expr}, chkGs S gs es = true → (assignEach es env).findIdx? (·.1) = none
  | .nil, [], _ => rfl
  | .cons g gs, e :: es, h => by
    simp only [chkGs, Bool.and_eq_true, Bool.not_eq_true'] at h
    obtain ⟨h1, h2, h3⟩ := h
    rw [each_cons h1, List.findIdx?_cons]
    simp [chkGs_star h3]
  | .nil, _ :: _, h => by simp [chkGs] at h
  | .cons _ _, [], h => by simp [chkGs] at h
theorem chkGs_len {S : SC} : ∀ {gs : MGs} {es : List Expr} {ds : List D} {s s' : Sl}, chkGs S gs es = true → bindGs gs ds s = some s' → ds.length = es.length
  | .nil, [], ds, s, s', _, h => by
    cases ds with
    | nil => rfl
    | cons d ds => simp [bindGs] at h
  | .cons g gs, e :: es, ds, s, s', h, h2 => by
    simp only [chkGs, Bool.and_eq_true, Bool.not_eq_true'] at h
    cases ds with
    | nil => simp [bindGs] at h2
    | cons d ds =>
      simp only [bindGs] at h2
      cases q : bindG g d s with
      | none => rw [q] at h2; cases h2
      | some s1 =>
        rw [q] at h2
        have := chkGs_len h.2.2 h2
        simp [this]
  | .nil, _ :: _, _, _, _, h, _ => by simp [chkGs] at h
  | .cons _ _, [], _, _, _, h, _ => by simp [chkGs] at h
section
variable {T : Tb} {P : Pg} {R : MP.Env} {adr : Nat → Addr} {n : Nat} {X : Cx} {S : SC} {W : WX} {b : Bool} {K : Frag}
theorem RelS.setV {G : Gh} {H : Hp} {σ : L2.St} {s : Sl} {i : Nat} {d : D} {v : V} (h : RelS K G H σ s) (r : Rep K G H d v) : RelS K G H (σ.set i (some v)) (s.set i (.val d)) := by
  refine ⟨by simp [h.len], fun j e q => ?_, fun j l q => ?_, fun j k l m a hjk q1 q2 q3 => ?_⟩
  · by_cases hij : i = j
    · subst hij
      have hl : i < s.length := by
        have := (List.getElem?_eq_some_iff.mp q).1
        simpa using this
      rw [List.getElem?_set_self hl] at q
      cases q
      exact ⟨v, List.getElem?_set_self (by rw [← h.len]; exact hl), r⟩
    · rw [List.getElem?_set_ne hij] at q ⊢
      exact h.val j e q
  · by_cases hij : i = j
    · subst hij
      have hl : i < s.length := by
        have := (List.getElem?_eq_some_iff.mp q).1
        simpa using this
      rw [List.getElem?_set_self hl] at q
      cases q
    · rw [List.getElem?_set_ne hij] at q ⊢
      exact h.own j l q
  · have nj : i ≠ j := fun e => by
      subst e
      have hl : i < s.length := by
        have := (List.getElem?_eq_some_iff.mp q1).1
        simpa using this
      rw [List.getElem?_set_self hl] at q1
      cases q1
    have nk : i ≠ k := fun e => by
      subst e
      have hl : i < s.length := by
        have := (List.getElem?_eq_some_iff.mp q2).1
        simpa using this
      rw [List.getElem?_set_self hl] at q2
      cases q2
    rw [List.getElem?_set_ne nj] at q1 q3
    rw [List.getElem?_set_ne nk] at q2 ⊢
    exact h.dis j k l m a hjk q1 q2 q3
theorem RelS.setN {G : Gh} {H : Hp} {σ : L2.St} {s : Sl} {i : Nat} {v : Option V} (h : RelS K G H σ s) : RelS K G H (σ.set i v) (s.set i .no) := by
  have ne : ∀ {j : Nat} {x : Slot}, (s.set i .no)[j]? = some x → x ≠ .no → i ≠ j := fun {j x} q hx e => by
    subst e
    have hl : i < s.length := by
      have := (List.getElem?_eq_some_iff.mp q).1
      simpa using this
    rw [List.getElem?_set_self hl] at q
    cases q
    exact hx rfl
  refine ⟨by simp [h.len], fun j e q => ?_, fun j l q => ?_, fun j k l m a hjk q1 q2 q3 => ?_⟩
  · have hij := ne q (by simp)
    rw [List.getElem?_set_ne hij] at q ⊢
    exact h.val j e q
  · have hij := ne q (by simp)
    rw [List.getElem?_set_ne hij] at q ⊢
    exact h.own j l q
  · have nj := ne q1 (by simp)
    have nk := ne q2 (by simp)
    rw [List.getElem?_set_ne nj] at q1 q3
    rw [List.getElem?_set_ne nk] at q2 ⊢
    exact h.dis j k l m a hjk q1 q2 q3
theorem RelS.wipe {G : Gh} {H : Hp} {σ : L2.St} {s : Sl} (h : RelS K G H σ s) : ∀ vs : List Nat, RelS K G H (L2.wipe σ vs) (wipeS s vs)
  | [] => h
  | v :: vs => (RelS.wipe h vs).setN
/-- a target takes a value -/
def tG (T : Tb) (K : Frag) (g : MG) : TG := fun v σ H Q => ∃ G s d s', RelS K G H σ s ∧ (Rep K G H d v ∨ (RepR K G H d v ∧ ∃ gs, g = .tup gs)) ∧ bindG g d s = some s' ∧ ∀ σ', RelS K G H σ' s' → σ'.length = σ.length → (∀ i, i ∉ g.ixs → σ'[i]? = σ[i]?) → Q σ' H
def tGs (T : Tb) (K : Frag) (gs : MGs) : TGs := fun vs σ H Q => ∃ G s ds s', RelS K G H σ s ∧ Reps K G H ds vs ∧ bindGs gs ds s = some s' ∧ ∀ σ', RelS K G H σ' s' → σ'.length = σ.length → (∀ i, i ∉ gs.ixs → σ'[i]? = σ[i]?) → Q σ' H
def gSeq (K : PySem.W.Frag) (n : Nat) (t : TGs) : TG := fun v σ H Q => ∃ a xs, v = .ref a ∧ (SqT K H a xs ∨ SqL K H a xs) ∧ xs.length = n ∧ t xs σ H Q
theorem pg_seq {es : List Expr} {k : Nat} {t : TGs} {n : Nat} {pos : Pos} (hc : X.calm = true) (h : PGs X es t) (hn : (assignEach es X.env).length = n) (hst : (assignEach es X.env).findIdx? (·.1) = none) : PG X (.Tuple es k pos) (gSeq X.K n t) := by
  refine ⟨fun pins s σ H v u Q I r ⟨a, xs, e1, hq, hl, hw⟩ => ?_⟩
  rcases hq with hq | hq
  · exact (pg_tup hc h hn hst).run pins s σ H v u Q I r ⟨a, xs, e1, hq, hl, hw⟩
  · exact (pg_unl hc h hn hst).run pins s σ H v u Q I r ⟨a, xs, e1, hq, hl, hw⟩
theorem _root_.L2.PG.weak {X : Cx} {e : Expr} {t t' : TG} (h : PG X e t) (w : ∀ v σ H Q, t' v σ H Q → t v σ H Q) : PG X e t' := ⟨fun pins s σ H v u Q I r q => h.run pins s σ H v u Q I r (w v σ H Q q)⟩
theorem _root_.L2.PGs.weak {X : Cx} {e : List Expr} {t t' : TGs} (h : PGs X e t) (w : ∀ v σ H Q, t' v σ H Q → t v σ H Q) : PGs X e t' := ⟨fun pins s σ H v u Q I r q => h.run pins s σ H v u Q I r (w v σ H Q q)⟩
mutual
theorem sg (xo : XOk S n X W) : ∀ (g : MG) (e : Expr), chkG S g e = true → PG X e (tG T X.K g)
  | .nm i, .Name x p, h => by
    simp only [chkG, Bool.and_eq_true, beq_iff_eq] at h
    obtain ⟨h1, h2⟩ := xo.loc h.2
    refine (pg_name (i := i) (by rw [xo.N]; exact xo.nd) (by rw [xo.N]; exact h.1) h1 h2).weak fun v σ H Q ⟨G, s, d, s', hS, r, e, q⟩ => ?_
    simp only [bindG] at e
    cases e
    have r : Rep X.K G H d v := by
      rcases r with r | ⟨_, gs, e⟩
      · exact r
      · cases e
    refine q _ (hS.setV r) (by simp) fun j hj => ?_
    have : i ≠ j := fun e => hj (by simp [MG.ixs, e])
    exact List.getElem?_set_ne this
  | .tup gs, .Tuple es k p, h => by
    simp only [chkG] at h
    refine (pg_seq (n := es.length) xo.calm (sgs xo gs es h) (each_len es) (chkGs_star h)).weak fun v σ H Q ⟨G, s, d, s', hS, r, e, q⟩ => ?_
    have r : RepR X.K G H d v := r.elim .of fun z => z.1
    cases d with
    | tup ds =>
      simp only [bindG] at e
      obtain ⟨a, xs, ev, h1, r1⟩ := r.tup
      exact ⟨a, xs, ev, .inl h1, by rw [← r1.length]; exact chkGs_len h e, G, s, ds, s', hS, r1, e, q⟩
    | lst ds =>
      simp only [bindG] at e
      obtain ⟨a, xs, ev, h1, r1⟩ := r.lstH
      exact ⟨a, xs, ev, .inr (SqL.of h1), by rw [← r1.length]; exact chkGs_len h e, G, s, ds, s', hS, r1, e, q⟩
    | _ => simp [bindG] at e
theorem sgs (xo : XOk S n X W) : ∀ (gs : MGs) (es : List Expr), chkGs S gs es = true → PGs X es (tGs T X.K gs)
  | .nil, [], _ => pgs_nil.weak fun vs σ H Q ⟨G, s, ds, s', hS, r, e, q⟩ => by
    cases ds with
    | nil =>
      simp only [bindGs] at e
      cases e
      cases r
      exact ⟨rfl, q σ hS rfl fun _ _ => rfl⟩
    | cons d ds => simp [bindGs] at e
  | .cons g gs, e :: es, h => by
    simp only [chkGs, Bool.and_eq_true, Bool.not_eq_true'] at h
    obtain ⟨h1, h2, h3⟩ := h
    refine (pgs_cons (sg xo g e h2) (sgs xo gs es h3) (by rw [each_cons h1]; rfl)).weak fun vs σ H Q ⟨G, s, ds, s', hS, r, e, q⟩ => ?_
    cases ds with
    | nil => simp [bindGs] at e
    | cons d ds =>
      simp only [bindGs] at e
      cases e1 : bindG g d s with
      | none => rw [e1] at e; cases e
      | some s1 =>
        rw [e1] at e
        have e : bindGs gs ds s1 = some s' := e
        cases r with
        | cons r rr =>
          refine ⟨_, _, rfl, G, s, d, s1, hS, .inl r, e1, fun σ1 hS1 hl1 hk1 => ⟨G, s1, ds, s', hS1, rr, e, fun σ2 hS2 hl2 hk2 => q σ2 hS2 (hl2.trans hl1) fun i hi => ?_⟩⟩
          simp only [MGs.ixs, List.mem_append, not_or] at hi
          rw [hk2 i hi.2, hk1 i hi.1]
  | .nil, _ :: _, h => by simp [chkGs] at h
  | .cons _ _, [], h => by simp [chkGs] at h
end
end
end MP

set_option Elab.async false
set_option linter.all false
set_option maxRecDepth 100000
set_option maxHeartbeats 2000000
set_option autoImplicit false
/-! MP, part n: list comprehensions -/
namespace MP
open PySem PySem.Spec PyProof.Rows L2

def W0 : WX := fun _ _ _ _ => False
def ownP (S : SC) (own : List Nat) : List (Str × Nat) := own.map fun i => ((S.N[i]?).getD default, i)
theorem ownP_snd (S : SC) (own : List Nat) : (ownP S own).map (·.2) = own := by
  unfold ownP
  rw [List.map_map]
  exact List.map_id _
def blkOk (S : SC) (sc : Scope) (own : List Nat) : Bool := decide (sc.kind = .function) && (own.all (fun i => (S.N[i]?).isSome) && sc.names.all fun y => (sc.names.lookup y.1 == some y.2) && match y.2 with
  | .free => S.names.lookup y.1 == some .cell || S.names.lookup y.1 == some .free
  | .local => own.any (fun i => S.N[i]? == some y.1) || !S.N.contains y.1
  | .cell => own.any (fun i => S.N[i]? == some y.1) || !S.N.contains y.1
  | _ => true)
theorem lookup_relS_free {sc : Scope} : ∀ {names : List (Str × NameKind)} {x : Str}, names.lookup x = some .free →
    (names.map fun (n, k) => if (k == NameKind.free && sc.kind == .function && sc.names.lookup n == some .cell) then (n, NameKind.cell) else (n, k)).lookup x = some .free ∨
    (names.map fun (n, k) => if (k == NameKind.free && sc.kind == .function && sc.names.lookup n == some .cell) then (n, NameKind.cell) else (n, k)).lookup x = some .cell
  | [], _, h => by simp at h
  | (n, k) :: r, x, h => by
    have ih := @lookup_relS_free sc r x
    show List.lookup x ((if (k == NameKind.free && sc.kind == .function && sc.names.lookup n == some .cell) = true then (n, NameKind.cell) else (n, k)) :: (r.map _)) = some .free ∨ List.lookup x ((if (k == NameKind.free && sc.kind == .function && sc.names.lookup n == some .cell) = true then (n, NameKind.cell) else (n, k)) :: (r.map _)) = some .cell
    by_cases hc : (k == NameKind.free && sc.kind == .function && sc.names.lookup n == some .cell) = true
    · rw [if_pos hc]
      cases hx : x == n with
      | true => right; simp only [List.lookup_cons, hx]
      | false =>
        simp only [List.lookup_cons, hx] at h ⊢
        exact ih h
    · rw [if_neg hc]
      cases hx : x == n with
      | true =>
        left
        simp only [List.lookup_cons, hx] at h ⊢
        exact h
      | false =>
        simp only [List.lookup_cons, hx] at h ⊢
        exact ih h
section
variable {T : Tb} {P : Pg} {R : MP.Env} {adr : Nat → Addr} {n : Nat} {X : Cx} {S : SC} {W : WX} {b : Bool} {K : Frag}
theorem XOk.blk {sc : Scope} {s : Shared} {H : Hp} {C : Addr} {cl : List (Str × Addr)} {fp : List Addr} (xo : XOk S n X W) : XOk ⟨S.N, sc.names⟩ n (X.blk s H sc (compEnvC sc cl C X.env) fp) W0 where
  N := xo.N
  nd := xo.nd
  sc := fun x k h => by
    have h : sc.names.lookup x = some k := h
    by_cases hk : k = .free
    · subst hk
      rcases lookup_relS_free (sc := X.env.scope) h with q | q
      · exact .inl q
      · exact .inr ⟨rfl, q⟩
    · exact .inl (lookup_relS_keep hk h)
  fn := fun x h => by
    have h : sc.names.lookup x = some .cell := h
    show (sc.names.lookup x == some .cell) = true
    rw [h]; rfl
  calm := xo.calm
  room := xo.room
  tk := takes0
theorem blk_ok {sc : Scope} {own : List Nat} (xo : XOk S n X W) (h : blkOk S sc own = true) : BlkOk X.N X.env.scope sc (ownP S own) := by
  unfold blkOk at h
  simp only [Bool.and_eq_true, decide_eq_true_eq, List.all_eq_true] at h
  obtain ⟨h1, h2, h3⟩ := h
  refine ⟨h1, fun y hy => by simpa using (h3 y hy).1, fun p hp => ?_, fun y hy e => ?_, fun y hy e => ?_⟩
  · unfold ownP at hp
    obtain ⟨i, hi, rfl⟩ := List.mem_map.mp hp
    have := h2 i hi
    rw [xo.N]
    cases q : S.N[i]? with
    | none => rw [q] at this; cases this
    | some x => simp
  · have := (h3 y hy).2
    rw [e] at this
    simp only [Bool.or_eq_true, beq_iff_eq] at this
    rcases this with q | q
    · rcases xo.sc _ _ q with r | ⟨r, _⟩
      · exact .inl r
      · cases r
    · rcases xo.sc _ _ q with r | ⟨_, r⟩
      · exact .inr r
      · exact .inl r
  · have this : (own.any (fun i => S.N[i]? == some y.1) || !S.N.contains y.1) = true := by
      have := (h3 y hy).2
      rcases e with e | e <;> rw [e] at this <;> exact this
    simp only [Bool.or_eq_true, List.any_eq_true, beq_iff_eq, Bool.not_eq_true'] at this
    rcases this with ⟨i, hi, q⟩ | q
    · refine .inl (List.mem_map.mpr ⟨(y.1, i), ?_, rfl⟩)
      unfold ownP
      exact List.mem_map.mpr ⟨i, hi, by rw [q]; rfl⟩
    · refine .inr ?_
      rw [xo.N]
      intro hm
      have : S.N.contains y.1 = true := by simpa using hm
      rw [this] at q; cases q
theorem wipe_get {σ : L2.St} {i : Nat} : ∀ {vs : List Nat}, (L2.wipe σ vs)[i]? = if i ∈ vs then (σ[i]?).map (fun _ => none) else σ[i]?
  | [] => by simp [L2.wipe]
  | v :: vs => by
    unfold L2.wipe
    by_cases hv : v = i
    · subst hv
      rw [if_pos List.mem_cons_self]
      by_cases hl : v < σ.length
      · rw [List.getElem?_set_self (by rw [wipe_length]; exact hl), List.getElem?_eq_getElem hl]; rfl
      · rw [List.getElem?_eq_none (by simp [wipe_length]; omega), List.getElem?_eq_none (by omega)]; rfl
    · rw [List.getElem?_set_ne hv, wipe_get]
      have : (i ∈ v :: vs) ↔ i ∈ vs := by simp [Ne.symm hv]
      simp only [this]
theorem wipe_eq {σ σ' : L2.St} {vs : List Nat} (hl : σ'.length = (L2.wipe σ vs).length) (h : ∀ i, i ∉ vs → σ'[i]? = (L2.wipe σ vs)[i]?) : L2.wipe σ' vs = L2.wipe σ vs := by
  apply List.ext_getElem?
  intro i
  rw [wipe_get]
  by_cases hi : i ∈ vs
  · rw [if_pos hi, wipe_get, if_pos hi]
    rw [wipe_length] at hl
    by_cases hl2 : i < σ.length
    · rw [List.getElem?_eq_getElem hl2, List.getElem?_eq_getElem (by omega)]; rfl
    · rw [List.getElem?_eq_none (by omega), List.getElem?_eq_none (by omega)]
  · rw [if_neg hi]
    exact h i hi
theorem rd_seto {a p : Addr} {H : Hp} {xs acc : List V} {o : HO} (hp : H p = some (.lst acc)) (h : Rd H a (.tup xs)) : Rd (upd H p o) a (.tup xs) := by
  rcases h with h | ⟨q, h⟩
  · exact .inl (by rw [upd_ne (fun e => by subst e; rw [hp] at h; cases h)]; exact h)
  · exact .inr ⟨q, by rw [upd_ne (fun e => by subst e; rw [hp] at h; cases h)]; exact h⟩
theorem Le.seto {G : Gh} {H : Hp} {p : Addr} {acc : List V} {o : HO} (hp : H p = some (.lst acc)) (hf : ¬ G.fz p) : Le G H G (upd H p o) := by
  refine ⟨fun _ _ h => h, fun _ h => h, fun a h => upd_ne fun e => hf (e ▸ h), fun a xs h => rd_seto hp h, fun a q u h => ?_, fun a u h => ?_⟩
  · rw [upd_ne (fun e => by subst e; rw [hp] at h; cases h)]; exact h
  · rw [upd_ne (fun e => by subst e; rw [hp] at h; cases h)]; exact h
theorem RelM.seto {C : Cl} {G : Gh} {H : Hp} {M : MH} {p : Addr} {acc : List V} {o : HO} (h : RelM C K G H M) (hp : H p = some (.lst acc)) (hm : p ∉ G.mu) (hf : ¬ G.fz p) : RelM C K G (upd H p o) M := by
  have e := Le.seto (o := o) hp hf
  refine ⟨h.len, h.nd, h.nfz, fun r a u h1 h2 => ?_, fun a ha => ?_⟩
  · refine (h.ob r a u h1 h2).mono e fun v q => ?_
    have ha : a ∈ G.mu := List.mem_of_getElem? h1
    rw [upd_ne (fun z => hm (by rw [← z]; exact ha))]; exact q
  · rw [e.fl a ha]; exact h.fzl a ha
theorem Ext.seto {G0 G : Gh} {H0 H : Hp} {p : Addr} {acc : List V} {o : HO} (e : Ext G0 H0 G H) (h0 : H0 p = none) (hp : H p = some (.lst acc)) (hf : ¬ G.fz p) : Ext G0 H0 G (upd H p o) := by
  have l := Le.seto (o := o) hp hf
  have ne : ∀ {a u}, H0 a = some u → a ≠ p := fun {a u} h z => by subst z; rw [h0] at h; cases h
  refine ⟨e.mu, e.fz, e.nfz, fun a u h hm => ?_, fun a h => ?_, fun a xs h => l.tup a xs (e.tup a xs h), fun a q u h => l.frz a q u (e.frz a q u h), fun a u h => l.own a u (e.own a u h), fun a h => ?_⟩
  · rw [upd_ne (ne h)]; exact e.keep a u h hm
  · rw [l.fl a (e.fz a h)]; exact e.fl a h
  · by_cases hz : a = p
    · subst hz; exact absurd h0 h
    · rw [upd_ne hz]; exact e.there a h
theorem loopC_nil {same : MH → Bool} {turn : D → MH → Res (Option D)} {M M' : MH} {r : List D} (h : loopC same turn [] M = .ok r M') : same M = true ∧ r = [] ∧ M' = M := by
  simp only [loopC] at h
  by_cases hs : same M = true
  · rw [if_pos hs] at h; cases h; exact ⟨hs, rfl, rfl⟩
  · rw [if_neg hs] at h; cases h
theorem loopC_cons {same : MH → Bool} {turn : D → MH → Res (Option D)} {M M' : MH} {x : D} {xs r : List D} (h : loopC same turn (x :: xs) M = .ok r M') : same M = true ∧ ∃ o M2 r', turn x M = .ok o M2 ∧ loopC same turn xs M2 = .ok r' M' ∧ r = o.toList ++ r' := by
  simp only [loopC] at h
  by_cases hs : same M = true
  · rw [if_pos hs] at h
    refine ⟨hs, ?_⟩
    cases q : turn x M with
    | ok o M2 =>
      rw [q] at h
      simp only [Res.bind_ok] at h
      cases q2 : loopC same turn xs M2 with
      | ok r' M3 =>
        rw [q2] at h
        simp only [Res.bind_ok] at h
        cases h
        exact ⟨o, M2, r', rfl, q2, rfl⟩
      | exc c fs M3 => rw [q2] at h; cases h
      | bad => rw [q2] at h; cases h
    | exc c fs M3 => rw [q] at h; cases h
    | bad => rw [q] at h; cases h
  · rw [if_neg hs] at h; cases h
theorem sameA_src {s : Sl} {M : MH} {ps : List (D × List D)} {G0 G : Gh} {H0 H : Hp} (h : sameA s M ps = true) (e : Ext G0 H0 G H) : Srcs ps G0 H0 G H M := by
  unfold sameA at h
  rw [List.all_eq_true] at h
  intro q hq
  have := h q hq
  obtain ⟨x, l⟩ := q
  cases x with
  | ref r =>
    have this : decide (rs s M (.ref r) = .lst l) = true := this
    have this : (match M[r]? with
      | some (.lst l) => D.lst l
      | _ => .ref r) = .lst l := of_decide_eq_true this
    show M[r]? = some (.lst l)
    split at this
    · rename_i l' q'
      cases this
      exact q'
    · cases this
  | own i => exact e
  | _ => trivial
theorem turn_ok {R : MP.Env} {s : Sl} {own : List Nat} {g : MG} {mt : MT} {me : ME} {x : D} {M M2 : MH} {o : Option D}
    (h : ((Res.opt (bindG g x (wipeS s own)) M).bind fun s1 M => (evT R s1 mt M).bind fun k M => if k then (evE R false s1 me M).bind fun d M => .ok (some d) M else .ok none M) = .ok o M2) :
    ∃ s1 k M3, bindG g x (wipeS s own) = some s1 ∧ evT R s1 mt M = .ok k M3 ∧ (k = false → o = none ∧ M2 = M3) ∧ (k = true → ∃ d, evE R false s1 me M3 = .ok d M2 ∧ o = some d) := by
  cases q1 : bindG g x (wipeS s own) with
  | none => rw [q1] at h; cases h
  | some s1 =>
    rw [q1] at h
    simp only [Res.opt_some, Res.bind_ok] at h
    cases q2 : evT R s1 mt M with
    | ok k M3 =>
      rw [q2] at h
      simp only [Res.bind_ok] at h
      refine ⟨s1, k, M3, rfl, q2, fun e => ?_, fun e => ?_⟩
      · subst e
        simp at h
        exact ⟨h.1.symm, h.2.symm⟩
      · subst e
        simp only [if_true] at h
        cases q3 : evE R false s1 me M3 with
        | ok d M4 =>
          rw [q3] at h
          simp at h
          obtain ⟨h1, h2⟩ := h
          subst h2
          exact ⟨d, rfl, h1.symm⟩
        | exc c fs M4 => rw [q3] at h; cases h
        | bad => rw [q3] at h; cases h
    | exc c fs M3 => rw [q2] at h; cases h
    | bad => rw [q2] at h; cases h
theorem none_of {G G1 : Gh} {H H1 : Hp} {p : Addr} (e : Ext G H G1 H1) (h : H1 p = none) : H p = none := by
  cases q : H p with
  | none => rfl
  | some o => exact absurd h (e.there p (some_ne q))
theorem comp_w {own : List Nat} {g : MG} {mi : MI} {mt : MT} {me : ME} {σ : L2.St} {H : Hp} {Q : VK} (hgx : ∀ i ∈ g.ixs, i ∈ own) (h : tL T K W (fun s M => evE R b s (.comp own g mi mt me) M) σ H Q) :
    tLc (tI T K W fun s M => evI R s mi M) (tG T K g) (tT T K W0 fun s M => evT R s mt M) (tE T K W0 (fun s M => evE R false s me M) false) own σ H Q := by
  obtain ⟨G, s, M, hM, hS, _, h⟩ := h
  simp only [evE] at h
  refine ⟨G, s, M, hM, hS, h.bind fun p M1 G1 H1 J _ e1 m1 jw h1 dl hD => ?_⟩
  have jw : JW T K J p.1 p.2 G1 H1 := jw
  by_cases hlen : p.2.length ≤ sizeLine
  · rw [if_pos hlen] at h1
    revert h1
    generalize hsame : (fun M => sameA s M p.1) = same
    generalize hturn : (fun (x : D) (M : MH) => (Res.opt (bindG g x (wipeS s own)) M).bind fun s1 M => (evT R s1 mt M).bind fun k M => if k then (evE R false s1 me M).bind fun d M => .ok (some d) M else .ok none M) = turn
    intro h1
    cases qr : loopC same turn p.2 M1 with
    | exc c fs M' => rw [qr] at h1; exact h1.elim
    | bad => rw [qr] at h1; exact h1.elim
    | ok ds Mf =>
      rw [qr] at h1
      simp only [Res.bind_ok, Res.calm_ok] at h1
      let Inv' : Nat → Hp → Prop := fun i H' => ∃ G' M' acc done rest, i ≤ p.2.length ∧ Ext G1 H1 G' H' ∧ RelM T.C K G' H' M' ∧ H' dl = some (.lst acc) ∧ dl ∉ G'.mu ∧ ¬ G'.fz dl ∧ Reps K G' H' done acc ∧ done.length ≤ i ∧ loopC same turn (p.2.drop i) M' = .ok rest Mf ∧ done ++ rest = ds
      refine ⟨fun i m H' => m = p.2.length - i ∧ Inv' i H', ⟨_, rfl, G1, M1, [], [], ds, Nat.zero_le _, Ext.laid0 hD (m1.nf hD), m1.laid hD, upd_same, m1.ne hD, m1.nf hD, .nil, Nat.le_refl _, by rw [List.drop_zero]; exact qr, rfl⟩, ?_⟩
      rintro i m H' ⟨rfl, G', M', acc, done, rest, hi', e', m', hd, hdm, hdf, rd, hdl, hl, hdr⟩
      by_cases hlt : i < p.2.length
      · rw [List.drop_eq_getElem_cons hlt] at hl
        obtain ⟨hs, o, M2, rest', ht', hl', rfl⟩ := loopC_cons hl
        subst hsame
        subst hturn
        obtain ⟨s1, k, M3, hb, hev, hf, htr⟩ := turn_ok ht'
        have srcs := sameA_src hs e'
        refine .inr ⟨jw.go i G' H' M' e'.le srcs m' hlt, Inv' (i + 1), fun H'' q => ⟨_, by omega, rfl, q⟩, fun x' H'' y => ?_⟩
        obtain ⟨G'', e'', m'', r''⟩ := jw.yld i p.2[i] G' H' M' x' H'' e'.le srcs m' (List.getElem?_eq_getElem hlt) y
        have ee := e'.trans e''
        have hd'' : H'' dl = some (.lst acc) := e''.keep dl _ hd hdm
        have nm : ∀ {Ga Gb : Gh} {Ha Hb : Hp}, Ext Ga Ha Gb Hb → Ha dl ≠ none → dl ∉ Ga.mu → dl ∉ Gb.mu := fun {Ga Gb Ha Hb} ex hn hm hx => by
          obtain ⟨t, et, nt⟩ := ex.mu
          rw [et] at hx
          rcases List.mem_append.mp hx with q | q
          · exact hm q
          · exact hn (nt dl q)
        have nf : ∀ {Ga Gb : Gh} {Ha Hb : Hp}, Ext Ga Ha Gb Hb → Ha dl ≠ none → ¬ Ga.fz dl → ¬ Gb.fz dl := fun {Ga Gb Ha Hb} ex hn hm hx => (ex.nfz dl hx).elim hm hn
        refine ⟨G'', wipeS s own, p.2[i], s1, ((hS.mono e1).mono ee).wipe own, .inl r'', hb, fun σ' hS' hlw hk' => ⟨wipe_eq hlw fun j hj => hk' j fun z => hj (hgx j z), G'', s1, M', m'', hS', ?_⟩⟩
        dsimp only
        rw [hev]
        intro G3 H3 k' e3 m3 rk
        subst rk
        have hd3 : H3 dl = some (.lst acc) := e3.keep dl _ hd'' (nm e'' (some_ne hd) hdm)
        have hm3 : dl ∉ G3.mu := nm e3 (some_ne hd'') (nm e'' (some_ne hd) hdm)
        have hf3 : ¬ G3.fz dl := nf e3 (some_ne hd'') (nf e'' (some_ne hd) hdf)
        cases k with
        | false =>
          obtain ⟨eo, eM⟩ := hf rfl
          subst eo
          subst eM
          rw [if_neg Bool.false_ne_true]
          exact ⟨G3, M2, acc, done, rest', hlt, ee.trans e3, m3, hd3, hm3, hf3, (rd.mono e'').mono e3, Nat.le_succ_of_le hdl, hl', hdr⟩
        | true =>
          obtain ⟨d, ed, eo⟩ := htr rfl
          subst eo
          rw [if_pos rfl]
          refine ⟨G3, s1, M3, m3, hS'.mono e3, ?_⟩
          dsimp only
          rw [ed]
          intro G4 H4 v e4 m4 rv
          have rv : Rep K G4 H4 d v := not_own rv
          have hd4 : H4 dl = some (.lst acc) := e4.keep dl _ hd3 hm3
          have hm4 : dl ∉ G4.mu := nm e4 (some_ne hd3) hm3
          have hf4 : ¬ G4.fz dl := nf e4 (some_ne hd3) hf3
          have r4 := ((rd.mono e'').mono e3).mono e4
          have le4 := Le.seto (o := .lst (acc ++ [v])) hd4 hf4
          refine ⟨acc, hd4, by rw [← r4.length]; omega, G4, M2, acc ++ [v], done ++ [d], rest', hlt, ((ee.trans e3).trans e4).seto hD hd4 hf4, m4.seto hd4 hm4 hf4, upd_same, hm4, hf4, (r4.append (.cons rv .nil)).le le4, by simp; omega, hl', by rw [← hdr]; simp⟩
      · have hi2 : i = p.2.length := by omega
        subst hi2
        rw [List.drop_length] at hl
        obtain ⟨hs, er, eM⟩ := loopC_nil hl
        subst er
        subst eM
        subst hsame
        refine .inl ⟨jw.stop G' H' Mf e'.le (sameA_src hs e') m', ?_⟩
        rw [List.append_nil] at hdr
        subst hdr
        exact h1 G' H' _ e' m' ⟨done, dl, acc, rfl, rfl, none_of e1 hD, hd, hdm, hdf, rd⟩
  · rw [if_neg hlen] at h1; exact h1.elim
theorem sl_comp {e elt tg it : Expr} {ifs : List Expr} {sc : Scope} {own : List Nat} {g : MG} {mi : MI} {mt : MT} {me : ME} (xo : XOk S n X W) (he : exComp e = some (elt, tg, it, ifs, sc)) (hk : blkOk S sc own = true) (hgx : ∀ i ∈ g.ixs, i ∈ own) (hset : exSet it = false) (hcg : chkG ⟨S.N, sc.names⟩ g tg = true)
    (hi : PI X tg it (tI T X.K W fun s M => evI R s mi M))
    (ht : ∀ (s : Shared) (H : Hp) (C : Addr) (cl : List (Str × Addr)) (fp : List Addr), PTs (X.blk s H sc (compEnvC sc cl C X.env) fp) ifs (tT T X.K W0 fun s M => evT R s mt M))
    (hel : ∀ (s : Shared) (H : Hp) (C : Addr) (cl : List (Str × Addr)) (fp : List Addr), PE (X.blk s H sc (compEnvC sc cl C X.env) fp) elt (tE T X.K W0 (fun s M => evE R false s me M) false)) :
    PE X e (tL T X.K W (fun s M => evE R b s (.comp own g mi mt me) M)) := by
  obtain ⟨p, rfl⟩ := exComp_ok he
  have hfs : ∀ x, foldedSetIterable it X.env x = pure x := fun x => by
    cases it <;> first | rfl | (simp [exSet] at hset)
  refine (pe_lc (own := ownP S own) (g := tG T X.K g) xo.calm (by rw [xo.N]; exact xo.nd) hi (blk_ok xo hk) (fun s H C cl fp => sg (T := T) (xo.blk (s := s) (H := H) (C := C) (cl := cl) (fp := fp)) g tg hcg) ht hel hfs).weak fun σ H Q h => ?_
  rw [ownP_snd]
  exact comp_w hgx h
end
end MP

set_option Elab.async false
set_option linter.all false
set_option maxRecDepth 100000
set_option maxHeartbeats 2000000
set_option autoImplicit false
/-! MP, part o: the checker of expressions -/
namespace MP
open PySem PySem.Spec PyProof.Rows L2

def okName (x : Str) : Bool := !(x == ("__debug__" : Str)) && !(x == ("__classdict__" : Str))
def plainTruth : Expr → Bool
  | .UnaryOp o _ _ => match o with
    | .Not => false
    | _ => true
  | .BoolOp _ _ _ => false
  | .IfExp _ _ _ _ => false
  | .Compare _ _ _ _ => false
  | _ => true
theorem plainTruth_ok {e : Expr} {env : PySem.Env} (h : plainTruth e = true) : ∀ whole, isTrue e env whole = (do let v ← whole; standAt e.pos; holding [v] (truthy v)) := by
  intro whole
  cases e <;> first | rfl | (simp [plainTruth] at h; done) | skip
  rename_i o a p
  cases o <;> first | rfl | (simp [plainTruth] at h; done)
def Op1.isCmp : Op1 → Bool
  | .isN => true
  | .notN => true
  | .isB _ => true
  | .notB _ => true
  | _ => false
def ME.isCmp : ME → Bool
  | .op1 o _ => o.isCmp
  | .op2 o _ _ => o.cmp.isSome
  | .chain _ _ _ _ _ => true
  | _ => false
def ME.isL : ME → Bool
  | .disp _ => true
  | .comp _ _ _ _ _ => true
  | _ => false
def MT.isYes : MT → Bool
  | .yes => true
  | _ => false
mutual
def chkE (P : Pg) (S : SC) : ME → Expr → Bool
  | .var i, e => match exName e with
    | some x => S.N[i]? == some x && (isVis S x && okName x)
    | none => false
  | .bor i, e => match exName e with
    | some x => S.N[i]? == some x && (isVis S x && okName x)
    | none => false
  | .cst d, e => match exConst e with
    | some c => (match constD c with
      | some d' => decide (d' = d)
      | none => false)
    | none => false
  | .glob g, e => match exName e with
    | some x => P.gls[g]? == some x && (isGl S x && okName x)
    | none => false
  | .op1 o a, e => match sh1 P S o e with
    | some a' => chkE P S a a'
    | none => false
  | .op2 o a c, e => match sh2 P S o e with
    | some (a', c') => chkE P S a a' && chkE P S c c'
    | none => false
  | .sl a lo hi, e => match exSlice e with
    | some (a', lo', hi') => chkE P S a a' && (chkB P S lo lo' && chkB P S hi hi')
    | none => false
  | .chain o1 o2 a b c, e => match exCmp2 e with
    | some (a', p1, b', p2, c') => (o1.cmp == some p1 && (o2.cmp == some p2 && !exSet c')) && (chkE P S a a' && (chkE P S b b' && chkE P S c c'))
    | none => false
  | .tup es, e => match exTup e with
    | some es' => chkEs P S es es'
    | none => false
  | .disp es, e => match exList e with
    | some es' => chkEs P S es es'
    | none => false
  | .ite t a c, e => match exIf e with
    | some (t', a', c') => chkT P S t t' && (chkE P S a a' && chkE P S c c')
    | none => false
  | .and es, e => match exAnd e with
    | some es' => !es'.isEmpty && chkEs P S es es'
    | none => false
  | .or es, e => match exOr e with
    | some es' => !es'.isEmpty && chkEs P S es es'
    | none => false
  | .call f es, e => match exCall e with
    | some (x, es') => (P.fns[f]? == some (some x) && ((P.ar[f]?).isSome && (isGl S x && okName x))) && chkEs P S es es'
    | none => false
  | .comp own g it t el, e => match exComp e with
    | some (elt, tg, iter, ifs, sc) => (blkOk S sc own && (g.ixs.all (fun i => own.contains i) && (!exSet iter && chkG ⟨S.N, sc.names⟩ g tg))) && (chkI P S it tg iter && ((match ifs with
        | [] => t.isYes
        | [c] => chkT P ⟨S.N, sc.names⟩ t c
        | _ => false) && chkE P ⟨S.N, sc.names⟩ el elt))
    | none => false
  | .hp a, e => a.isL && chkE P S a e
  | _, _ => false
def chkEs (P : Pg) (S : SC) : MEs → List Expr → Bool
  | .nil, es => es.isEmpty
  | .cons m ms, es => match es with
    | e :: es => !exStar e && (chkE P S m e && chkEs P S ms es)
    | [] => false
def chkB (P : Pg) (S : SC) : MB → Option Expr → Bool
  | .no, e => e.isNone
  | .e m, e => match e with
    | some e => chkE P S m e
    | none => false
def chkT (P : Pg) (S : SC) : MT → Expr → Bool
  | .yes, _ => false
  | .e m, e => (plainTruth e || m.isCmp) && chkE P S m e
  | .not t, e => match exUn e with
    | some (.Not, a) => chkT P S t a
    | _ => false
  | .and ts, e => match exAnd e with
    | some es => !es.isEmpty && chkTs P S ts es
    | none => false
  | .or ts, e => match exOr e with
    | some es => !es.isEmpty && chkTs P S ts es
    | none => false
def chkTs (P : Pg) (S : SC) : MTs → List Expr → Bool
  | .nil, es => es.isEmpty
  | .cons t ts, es => match es with
    | e :: es => chkT P S t e && chkTs P S ts es
    | [] => false
def chkI (P : Pg) (S : SC) : MI → Expr → Expr → Bool
  | .seq a, _, e => chkE P S a e
  | .rng1 a, _, e => match exCall e with
    | some (x, [a']) => (x == "range" && (bi P S "range" && !exStar a')) && chkE P S a a'
    | _ => false
  | .rng2 a b, _, e => match exCall e with
    | some (x, [a', b']) => (x == "range" && (bi P S "range" && (!exStar a' && !exStar b'))) && (chkE P S a a' && chkE P S b b')
    | _ => false
  | .enum a, tg, e => match exCall e with
    | some (x, [a']) => (x == "enumerate" && (exTupT tg && (bi P S "enumerate" && !exStar a'))) && chkE P S a a'
    | _ => false
  | .zip a b, tg, e => match exCall e with
    | some (x, [a', b']) => (x == "zip" && (exTupT tg && (bi P S "zip" && (!exStar a' && !exStar b')))) && (chkE P S a a' && chkE P S b b')
    | _ => false
  | _, _, _ => false
end
theorem disp_lst {R : MP.Env} {b : Bool} {es : MEs} {s : Sl} {M M' : MH} {d : D} (h : evE R b s (.disp es) M = .ok d M') : ∃ l, d = .lst l := by
  simp only [evE] at h
  cases q : evEs R s es M with
  | ok ds M1 =>
    rw [q] at h
    simp only [Res.bind_ok] at h
    by_cases hl : ds.length ≤ sizeLine
    · rw [if_pos hl] at h; cases h; exact ⟨_, rfl⟩
    · rw [if_neg hl] at h; cases h
  | exc c fs M1 => rw [q] at h; cases h
  | bad => rw [q] at h; cases h
theorem comp_lst {R : MP.Env} {b : Bool} {own : List Nat} {g : MG} {mi : MI} {mt : MT} {me : ME} {s : Sl} {M M' : MH} {d : D} (h : evE R b s (.comp own g mi mt me) M = .ok d M') : ∃ l, d = .lst l := by
  simp only [evE] at h
  cases q : evI R s mi M with
  | ok p M1 =>
    rw [q] at h
    simp only [Res.bind_ok] at h
    by_cases hl : p.2.length ≤ sizeLine
    · rw [if_pos hl] at h
      generalize loopC _ _ p.2 M1 = r at h
      cases r with
      | ok ds M2 => simp at h; exact ⟨_, h.1.symm⟩
      | exc c fs M2 => cases h
      | bad => cases h
    · rw [if_neg hl] at h; cases h
  | exc c fs M1 => rw [q] at h; cases h
  | bad => rw [q] at h; cases h
theorem isL_lst {R : MP.Env} {b : Bool} {m : ME} (hm : m.isL = true) {s : Sl} {M M' : MH} {d : D} (h : evE R b s m M = .ok d M') : ∃ l, d = .lst l := by
  cases m <;> first | (simp [ME.isL] at hm; done) | skip
  · exact disp_lst h
  · exact comp_lst h
section
variable {T : Tb} {P : Pg} {R : MP.Env} {adr : Nat → Addr} {n : Nat} {X : Cx} {S : SC} {W : WX} {b : Bool} {K : Frag}
theorem okName_ok {x : Str} (h : okName x = true) : (x == ("__debug__" : Str)) = false ∧ (x == ("__classdict__" : Str)) = false := by
  unfold okName at h
  simpa using h
/-- a new list of the small heap -/
theorem se_hp {e : Expr} {m : ME} (hm : m.isL = true) (h : PE X e (tL T X.K W (fun s M => evE R false s m M))) : PE X e (tE T X.K W (fun s M => evE R b s (.hp m) M) b) := h.weak fun σ H Q ⟨G, s, M, hM, hS, k⟩ => by
  simp only [evE] at k
  refine ⟨G, s, M, hM, hS, fun d M' q => isL_lst hm q, ?_⟩
  dsimp only
  cases q : evE R false s m M with
  | ok d M' =>
    rw [q] at k
    intro G' H' v e1 m1 ⟨l, p, xs, ed, ev, hp, hp', hmu, hf, r⟩
    subst ed
    subst ev
    simp only [Res.bind_ok] at k
    refine k (G'.push p) H' (.ref p) ?_ (m1.push hmu hf ⟨xs, hp', r⟩) (.inl (.ref ?_))
    · obtain ⟨t, et, nt⟩ := e1.mu
      refine ⟨⟨t ++ [p], ?_, fun a ha => ?_⟩, e1.fz, e1.nfz, e1.keep, e1.fl, e1.tup, e1.frz, e1.own, e1.there⟩
      · show G'.mu ++ [p] = _
        rw [et, List.append_assoc]
      · rcases List.mem_append.mp ha with q | q
        · exact nt a q
        · rw [List.mem_singleton.mp q]; exact hp
    · show (G'.mu ++ [p])[M'.length]? = some p
      rw [← m1.len]
      simp
  | exc c ds M' => rw [q] at k; exact k
  | bad => rw [q] at k; exact k
theorem st_op1 {e a : Expr} {r : V → Hp → VK → Prop} {o : Op1} {ea : Sl → MH → Res D} (rule : ∀ ta, PE X a ta → PT X e (tTest (tUn r ta))) (sv : Serves1 T X.K r (op1 o)) (hb : ∀ x z, op1 o x = some z → ∃ k, z = .bl k) (ha : PE X a (tE T X.K W ea true)) :
    PT X e (tT T X.K W (fun s M => ((ea s M).bind fun x M => .opt (op1 o (rs s M x)) M).bind fun x M => .opt (rs s M x).truth M)) := by
  refine (rule _ ha).weak fun σ H Q ⟨G, s, M, hM, hS, h⟩ => ?_
  simp only [Res.bind_assoc] at h
  refine ⟨G, s, M, hM, hS, h.bind fun x M1 G1 H1 v _ e1 m1 rx h1 => ?_⟩
  obtain ⟨z, ez, k⟩ := h1.optb
  obtain ⟨c, rfl⟩ := hb _ _ ez
  refine sv G1 H1 M1 _ _ v _ m1 (repB_rs m1 (hS.mono e1) rx) ez fun G' H' b' e m r => ?_
  cases r
  exact ⟨c, rfl, k G' H' c e m rfl⟩
theorem isCmp_bl {o : Op1} (h : o.isCmp = true) : ∀ x z, op1 o x = some z → ∃ k, z = .bl k := by
  intro x z e
  cases o <;> first | (simp [Op1.isCmp] at h; done) | skip
  all_goals cases x <;> simp [op1] at e <;> exact ⟨_, e.symm⟩
theorem cmp_bl {o : Op2} {p : CmpOp} (h : o.cmp = some p) : ∀ x y z, op2 o x y = some z → ∃ k, z = .bl k := by
  intro x y z e
  have mp : ∀ {o : Option Bool} {f : Bool → Bool}, (o.map fun c => D.bl (f c)) = some z → ∃ k, z = .bl k := fun {o f} e => by
    cases o with
    | none => cases e
    | some c => exact ⟨_, (Option.some.inj e).symm⟩
  cases o <;> first | (simp [Op2.cmp] at h; done) | skip
  · exact mp (f := fun c => c) (o := x.eq? y) (by simp only [op2] at e; exact e)
  · exact mp (f := not) (o := x.eq? y) (by simpa only [op2] using e)
  · cases x <;> cases y <;> simp [op2] at e <;> exact ⟨_, e.symm⟩
  · cases x <;> cases y <;> simp [op2] at e <;> exact ⟨_, e.symm⟩
  · cases x <;> cases y <;> simp [op2] at e <;> exact ⟨_, e.symm⟩
  · cases x <;> cases y <;> simp [op2] at e <;> exact ⟨_, e.symm⟩
  · exact mp (f := fun c => c) (o := x.in? y) (by simp only [op2] at e; exact e)
  · exact mp (f := not) (o := x.in? y) (by simpa only [op2] using e)
theorem st_1 {o : Op1} {e a : Expr} {ea : Sl → MH → Res D} (ho : o.isCmp = true) (he : sh1 P S o e = some a) (ha : PE X a (tE T X.K W ea true)) :
    PT X e (tT T X.K W (fun s M => ((ea s M).bind fun x M => .opt (op1 o (rs s M x)) M).bind fun x M => .opt (rs s M x).truth M)) := by
  cases o with
  | isN =>
    simp only [sh1] at he
    split at he
    · rename_i a' c hq
      obtain ⟨h3, h4⟩ := ite_some' he
      subst h4
      obtain ⟨k, pc, rfl⟩ := exNone_ok h3
      obtain ⟨p, rfl⟩ := exCmp1_ok hq
      exact st_op1 (r := fun x H Q => V.non = V.non ∧ Q (.bl (decide (x = .non))) H) (fun ta h => pt_cmpR op_isN h pe_non rfl) sv_isN (isCmp_bl ho) ha
    · cases he
  | notN =>
    simp only [sh1] at he
    split at he
    · rename_i a' c hq
      obtain ⟨h3, h4⟩ := ite_some' he
      subst h4
      obtain ⟨k, pc, rfl⟩ := exNone_ok h3
      obtain ⟨p, rfl⟩ := exCmp1_ok hq
      exact st_op1 (r := fun x H Q => V.non = V.non ∧ Q (.bl (!decide (x = .non))) H) (fun ta h => pt_cmpR op_notN h pe_non rfl) sv_notN (isCmp_bl ho) ha
    · cases he
  | isB cc =>
    simp only [sh1] at he
    split at he
    · rename_i a' c hq
      obtain ⟨h3, h4⟩ := ite_some' he
      subst h4
      obtain ⟨k, pc, rfl⟩ := exBool_ok h3
      obtain ⟨p, rfl⟩ := exCmp1_ok hq
      exact st_op1 (r := fun x H Q => ∃ a b, x = .bl a ∧ V.bl cc = .bl b ∧ Q (.bl (decide (a = b))) H) (fun ta h => pt_cmpR op_is_bl h pe_bl rfl) (sv_isB _) (isCmp_bl ho) ha
    · cases he
  | notB cc =>
    simp only [sh1] at he
    split at he
    · rename_i a' c hq
      obtain ⟨h3, h4⟩ := ite_some' he
      subst h4
      obtain ⟨k, pc, rfl⟩ := exBool_ok h3
      obtain ⟨p, rfl⟩ := exCmp1_ok hq
      exact st_op1 (r := fun x H Q => ∃ a b, x = .bl a ∧ V.bl cc = .bl b ∧ Q (.bl (!decide (a = b))) H) (fun ta h => pt_cmpR op_isnot_bl h pe_bl rfl) (sv_notB _) (isCmp_bl ho) ha
    · cases he
  | _ => simp [Op1.isCmp] at ho
theorem st_2 {o : Op2} {op : CmpOp} {e a c : Expr} {ea ec : Sl → MH → Res D} (xo : XOk S n X W) (ho : o.cmp = some op) (he : sh2 P S o e = some (a, c)) (ha : PE X a (tE T X.K W ea true)) (hc : PE X c (tE T X.K W ec true)) :
    PT X e (tT T X.K W (fun s M => ((ea s M).bind fun x M => if o.rcv (rs s M x) then (ec s M).bind fun y M => .opt (op2 o (rs s M x) (rs s M y)) M else .bad).bind fun x M => .opt (rs s M x).truth M)) := by
  have hr : o.noRcv = true := by cases o <;> simp [Op2.cmp] at ho <;> rfl
  have hb : o.bin = none := by cases o <;> simp [Op2.cmp] at ho <;> rfl
  have he : (match o.cmp, exCmp1 e with
      | some op, some (a, op', c) => if op' == op && !exSet c then some (a, c) else none
      | _, _ => none) = some (a, c) := by
    have : sh2 P S o e = (match o.bin with
      | some op => match exBin e with
        | some (a, op', c) => if op' == op then some (a, c) else none
        | _ => none
      | none => match o.cmp, exCmp1 e with
        | some op, some (a, op', c) => if op' == op && !exSet c then some (a, c) else none
        | _, _ => none) := by cases o <;> simp [Op2.cmp] at ho <;> rfl
    rw [this, hb] at he
    exact he
  rw [ho] at he
  split at he
  · rename_i op1 a' op' c' hq1 hq
    cases hq1
    obtain ⟨h1, h2⟩ := ite_some' he
    cases h2
    obtain ⟨p, rfl⟩ := exCmp1_ok hq
    obtain ⟨h3, h4⟩ := Bool.and_eq_true_iff.mp h1
    have := CmpOp.eq_of h3
    subst this
    obtain ⟨r, hr', sv⟩ := op2_cmp (T := T) xo.units o op' ho
    have h := st_op2 (T := T) (W := W) (o := o) (e := .Compare a [op'] [c] p) (fun ta tb h1 h2 => pt_cmpR hr' h1 h2 (noSet (by simpa using h4))) sv (cmp_bl ho) ha hc
    have e : (fun (s : Sl) (M : MH) => ((ea s M).bind fun x M => if o.rcv (rs s M x) = true then (ec s M).bind fun y M => Res.opt (op2 o (rs s M x) (rs s M y)) M else .bad).bind fun x M => .opt (rs s M x).truth M) = (fun s M => ((ea s M).bind fun x M => (ec s M).bind fun y M => .opt (op2 o (rs s M x) (rs s M y)) M).bind fun x M => .opt (rs s M x).truth M) := by
      funext s M
      congr 1
      congr 1
      funext x M1
      rw [if_pos (rcv_true hr _)]
    rw [e]
    exact h
  · cases he
end
end MP

set_option Elab.async false
set_option linter.all false
set_option maxRecDepth 100000
set_option maxHeartbeats 4000000
set_option autoImplicit false
/-! MP, part p: a checked expression does what its mini tree says -/
namespace MP
open PySem PySem.Spec PyProof.Rows L2

section
variable {T : Tb} {P : Pg} {R : MP.Env} {adr : Nat → Addr} {n : Nat}
abbrev PrX (T : Tb) (P : Pg) (R : MP.Env) (adr : Nat → Addr) (n : Nat) (X : Cx) : Prop := PrOk T P R adr n X.prog X.w X.K X.mg X.base
theorem chkEs_plain {S : SC} : ∀ {ms : MEs} {es : List Expr}, chkEs P S ms es = true → plainEs es = true
  | .nil, es, h => by
    simp only [chkEs] at h
    cases es with
    | nil => rfl
    | cons e es => cases h
  | .cons m ms, es, h => by
    cases es with
    | nil => rfl
    | cons e es =>
      simp only [chkEs, Bool.and_eq_true] at h
      show (!exStar e && plainEs es) = true
      rw [Bool.and_eq_true]
      exact ⟨h.1, chkEs_plain h.2.2⟩
theorem chkEs_nil {S : SC} {ms : MEs} (h : chkEs P S ms [] = true) : ms = .nil := by
  cases ms with
  | nil => rfl
  | cons m ms => simp [chkEs] at h
theorem comp_parts {S : SC} {own : List Nat} {g : MG} {it : MI} {t : MT} {el : ME} {e : Expr} (h : chkE P S (.comp own g it t el) e = true) : ∃ elt tg iter ifs sc, exComp e = some (elt, tg, iter, ifs, sc) ∧ blkOk S sc own = true ∧ (∀ i ∈ g.ixs, i ∈ own) ∧ exSet iter = false ∧ chkG ⟨S.N, sc.names⟩ g tg = true ∧
    chkI P S it tg iter = true ∧ ((ifs = [] ∧ t = .yes) ∨ ∃ c, ifs = [c] ∧ chkT P ⟨S.N, sc.names⟩ t c = true) ∧ chkE P ⟨S.N, sc.names⟩ el elt = true := by
  simp only [chkE] at h
  split at h
  · rename_i elt tg iter ifs sc hx
    simp only [Bool.and_eq_true, Bool.not_eq_true', List.all_eq_true] at h
    obtain ⟨⟨h1, h2, h3, h4⟩, h5, h6, h7⟩ := h
    refine ⟨elt, tg, iter, ifs, sc, hx, h1, fun i hi => by simpa using h2 i hi, h3, h4, h5, ?_, h7⟩
    cases ifs with
    | nil =>
      refine .inl ⟨rfl, ?_⟩
      cases t <;> first | rfl | (simp [MT.isYes] at h6)
    | cons c r =>
      cases r with
      | nil => exact .inr ⟨c, rfl, h6⟩
      | cons d r => cases h6
  · cases h
theorem pts_yes {X : Cx} {W : WX} : PTs X [] (tT T X.K W fun s M => evT R s .yes M) := ⟨fun pins s σ H Q I ⟨G, s', M, hM, hS, h⟩ => pts_nil.run pins s σ H Q I (by
  simp only [evT] at h
  exact h G H true .refl hM rfl)⟩
mutual
theorem cE : ∀ (m : ME) {X : Cx} {S : SC} {W : WX} {e : Expr} (b : Bool), PrX T P R adr n X → XOk S n X W → chkE P S m e = true → PE X e (tE T X.K W (fun s M => evE R b s m M) b)
  | .var i, X, S, W, e, b, pr, xo, h => by
    simp only [chkE] at h
    split at h
    · rename_i x hx
      simp only [Bool.and_eq_true, beq_iff_eq] at h
      obtain ⟨h1, h2, h3⟩ := h
      obtain ⟨h4, h5⟩ := okName_ok h3
      exact se_var xo hx h1 h2 h4 h5
    · cases h
  | .bor i, X, S, W, e, b, pr, xo, h => by
    simp only [chkE] at h
    split at h
    · rename_i x hx
      simp only [Bool.and_eq_true, beq_iff_eq] at h
      obtain ⟨h1, h2, h3⟩ := h
      obtain ⟨h4, h5⟩ := okName_ok h3
      exact se_bor xo hx h1 h2 h4 h5
    · cases h
  | .cst d, X, S, W, e, b, pr, xo, h => by
    simp only [chkE] at h
    split at h
    · rename_i c hx
      split at h
      · rename_i d' hd
        have := of_decide_eq_true h
        subst this
        exact se_cst hx hd
      · cases h
    · cases h
  | .glob g, X, S, W, e, b, pr, xo, h => by
    simp only [chkE] at h
    split at h
    · rename_i x hx
      simp only [Bool.and_eq_true, beq_iff_eq] at h
      obtain ⟨h1, h2, h3⟩ := h
      obtain ⟨h4, h5⟩ := okName_ok h3
      exact se_glob pr xo hx h1 h2 h4
    · cases h
  | .op1 o a, X, S, W, e, b, pr, xo, h => by
    simp only [chkE] at h
    split at h
    · rename_i a' ha
      simp only [evE]
      exact se_1 pr xo ha (cE a true pr xo h)
    · cases h
  | .op2 o a c, X, S, W, e, b, pr, xo, h => by
    simp only [chkE] at h
    split at h
    · rename_i a' c' ha
      simp only [Bool.and_eq_true] at h
      simp only [evE]
      exact se_2 pr xo ha (cE a true pr xo h.1) (cE c true pr xo h.2)
    · cases h
  | .sl a lo hi, X, S, W, e, b, pr, xo, h => by
    simp only [chkE] at h
    split at h
    · rename_i a' lo' hi' ha
      simp only [Bool.and_eq_true] at h
      exact se_sl ha (cE a true pr xo h.1) (cB lo pr xo h.2.1) (cB hi pr xo h.2.2)
    · cases h
  | .chain o1 o2 a c d, X, S, W, e, b, pr, xo, h => by
    simp only [chkE] at h
    split at h
    · rename_i a' p1 b' p2 c' ha
      simp only [Bool.and_eq_true, beq_iff_eq, Bool.not_eq_true'] at h
      obtain ⟨⟨h1, h2, h3⟩, h4, h5, h6⟩ := h
      obtain ⟨r1, g1, s1⟩ := op2_cmp (T := T) xo.units o1 p1 h1
      obtain ⟨r2, g2, s2⟩ := op2_cmp (T := T) xo.units o2 p2 h2
      exact se_chain ha h3 g1 s1 g2 s2 (cE a false pr xo h4) (cE c false pr xo h5) (cE d false pr xo h6)
    · cases h
  | .tup es, X, S, W, e, b, pr, xo, h => by
    simp only [chkE] at h
    split at h
    · rename_i es' ha
      exact se_tup ha (cEs es pr xo h)
    · cases h
  | .disp es, X, S, W, e, b, pr, xo, h => by
    simp only [chkE] at h
    split at h
    · rename_i es' ha
      exact tL.e (sl_disp ha (cEs es pr xo h)) fun s M d M' => disp_lst
    · cases h
  | .ite t a c, X, S, W, e, b, pr, xo, h => by
    simp only [chkE] at h
    split at h
    · rename_i t' a' c' ha
      simp only [Bool.and_eq_true] at h
      exact se_ite ha (cT t pr xo h.1) (cE a false pr xo h.2.1) (cE c false pr xo h.2.2)
    · cases h
  | .and es, X, S, W, e, b, pr, xo, h => by
    simp only [chkE] at h
    split at h
    · rename_i es' ha
      simp only [Bool.and_eq_true] at h
      obtain ⟨p, rfl⟩ := exAnd_ok ha
      simp only [evE]
      exact tE.up (cAnd es pr xo h.1 h.2 p)
    · cases h
  | .or es, X, S, W, e, b, pr, xo, h => by
    simp only [chkE] at h
    split at h
    · rename_i es' ha
      simp only [Bool.and_eq_true] at h
      obtain ⟨p, rfl⟩ := exOr_ok ha
      simp only [evE]
      exact tE.up (cOr es pr xo h.1 h.2 p)
    · cases h
  | .call f es, X, S, W, e, b, pr, xo, h => by
    simp only [chkE] at h
    split at h
    · rename_i x es' ha
      simp only [Bool.and_eq_true, beq_iff_eq] at h
      obtain ⟨⟨h1, h2, h3, h4⟩, h5⟩ := h
      obtain ⟨k, hk⟩ := Option.isSome_iff_exists.mp h2
      exact se_call pr xo ha h1 hk h3 (okName_ok h4).1 (chkEs_plain h5) (fun z => by subst z; exact chkEs_nil h5) (cEs es pr xo h5)
    · cases h
  | .comp own g it t el, X, S, W, e, b, pr, xo, h => by
    obtain ⟨elt, tg, iter, ifs, sc, h1, h2, h3, h4, h5, h6, h7, h8⟩ := comp_parts h
    refine tL.e (sl_comp xo h1 h2 h3 h4 h5 (cI it tg pr xo h6) (fun s H C cl fp => ?_) (fun s H C cl fp => cE el false pr xo.blk h8)) fun s M d M' => comp_lst
    rcases h7 with ⟨rfl, rfl⟩ | ⟨c, rfl, h7⟩
    · exact pts_yes
    · exact pts_one (cT t pr xo.blk h7)
  | .hp a, X, S, W, e, b, pr, xo, h => by
    simp only [chkE, Bool.and_eq_true] at h
    exact se_hp h.1 (cL a pr xo h.1 h.2)
  | .dnew _, _, _, _, _, _, _, _, h => by simp [chkE] at h
  | .fld _ _, _, _, _, _, _, _, _, h => by simp [chkE] at h
  | .meth _ _ _, _, _, _, _, _, _, _, h => by simp [chkE] at h
  | .new _ _, _, _, _, _, _, _, _, h => by simp [chkE] at h
  | .mop _ _ _, _, _, _, _, _, _, _, h => by simp [chkE] at h
  | .rop _ _ _, _, _, _, _, _, _, _, h => by simp [chkE] at h
theorem cL : ∀ (m : ME) {X : Cx} {S : SC} {W : WX} {e : Expr}, PrX T P R adr n X → XOk S n X W → m.isL = true → chkE P S m e = true → PE X e (tL T X.K W (fun s M => evE R false s m M))
  | .disp es, X, S, W, e, pr, xo, _, h => by
    simp only [chkE] at h
    split at h
    · rename_i es' ha
      exact sl_disp ha (cEs es pr xo h)
    · cases h
  | .comp own g it t el, X, S, W, e, pr, xo, _, h => by
    obtain ⟨elt, tg, iter, ifs, sc, h1, h2, h3, h4, h5, h6, h7, h8⟩ := comp_parts h
    refine sl_comp xo h1 h2 h3 h4 h5 (cI it tg pr xo h6) (fun s H C cl fp => ?_) (fun s H C cl fp => cE el false pr xo.blk h8)
    rcases h7 with ⟨rfl, rfl⟩ | ⟨c, rfl, h7⟩
    · exact pts_yes
    · exact pts_one (cT t pr xo.blk h7)
  | .var _, _, _, _, _, _, _, h, _ => by simp [ME.isL] at h
  | .bor _, _, _, _, _, _, _, h, _ => by simp [ME.isL] at h
  | .cst _, _, _, _, _, _, _, h, _ => by simp [ME.isL] at h
  | .glob _, _, _, _, _, _, _, h, _ => by simp [ME.isL] at h
  | .op1 _ _, _, _, _, _, _, _, h, _ => by simp [ME.isL] at h
  | .op2 _ _ _, _, _, _, _, _, _, h, _ => by simp [ME.isL] at h
  | .sl _ _ _, _, _, _, _, _, _, h, _ => by simp [ME.isL] at h
  | .chain _ _ _ _ _, _, _, _, _, _, _, h, _ => by simp [ME.isL] at h
  | .tup _, _, _, _, _, _, _, h, _ => by simp [ME.isL] at h
  | .ite _ _ _, _, _, _, _, _, _, h, _ => by simp [ME.isL] at h
  | .and _, _, _, _, _, _, _, h, _ => by simp [ME.isL] at h
  | .or _, _, _, _, _, _, _, h, _ => by simp [ME.isL] at h
  | .call _ _, _, _, _, _, _, _, h, _ => by simp [ME.isL] at h
  | .hp _, _, _, _, _, _, _, h, _ => by simp [ME.isL] at h
  | .dnew _, _, _, _, _, _, _, h, _ => by simp [ME.isL] at h
  | .fld _ _, _, _, _, _, _, _, h, _ => by simp [ME.isL] at h
  | .meth _ _ _, _, _, _, _, _, _, h, _ => by simp [ME.isL] at h
  | .new _ _, _, _, _, _, _, _, h, _ => by simp [ME.isL] at h
  | .mop _ _ _, _, _, _, _, _, _, h, _ => by simp [ME.isL] at h
  | .rop _ _ _, _, _, _, _, _, _, h, _ => by simp [ME.isL] at h
theorem cEs : ∀ (ms : MEs) {X : Cx} {S : SC} {W : WX} {es : List Expr}, PrX T P R adr n X → XOk S n X W → chkEs P S ms es = true → PA X es (tEs T X.K W fun s M => evEs R s ms M)
  | .nil, X, S, W, es, pr, xo, h => by
    simp only [chkEs] at h
    cases es with
    | nil => exact sa_nil
    | cons e es => cases h
  | .cons m ms, X, S, W, es, pr, xo, h => by
    cases es with
    | nil => simp [chkEs] at h
    | cons e es =>
      simp only [chkEs, Bool.and_eq_true, Bool.not_eq_true'] at h
      exact sa_cons h.1 (cE m false pr xo h.2.1) (cEs ms pr xo h.2.2)
theorem cAnd : ∀ (ms : MEs) {X : Cx} {S : SC} {W : WX} {es : List Expr}, PrX T P R adr n X → XOk S n X W → (!es.isEmpty) = true → chkEs P S ms es = true → ∀ pos, PE X (.BoolOp .And es pos) (tE T X.K W (fun s M => evAnd R s ms M) false)
  | .nil, X, S, W, es, pr, xo, hn, h, pos => by
    simp only [chkEs] at h
    rw [h] at hn
    cases hn
  | .cons m .nil, X, S, W, es, pr, xo, hn, h, pos => by
    cases es with
    | nil => simp at hn
    | cons e es =>
      simp only [chkEs, Bool.and_eq_true, Bool.not_eq_true', List.isEmpty_iff] at h
      obtain ⟨h1, h2, h3⟩ := h
      subst h3
      exact (se_and1 (es := []) (ms := .cons m .nil) (cE m false pr xo h2) ⟨m, rfl⟩).1
  | .cons m (.cons m2 ms), X, S, W, es, pr, xo, hn, h, pos => by
    cases es with
    | nil => simp at hn
    | cons e es =>
      rw [chkEs] at h
      simp only [Bool.and_eq_true, Bool.not_eq_true'] at h
      obtain ⟨h1, h2, h3⟩ := h
      cases es with
      | nil => simp [chkEs] at h3
      | cons e2 es => exact se_and (cE m false pr xo h2) (cAnd (.cons m2 ms) pr xo rfl h3 pos)
theorem cOr : ∀ (ms : MEs) {X : Cx} {S : SC} {W : WX} {es : List Expr}, PrX T P R adr n X → XOk S n X W → (!es.isEmpty) = true → chkEs P S ms es = true → ∀ pos, PE X (.BoolOp .Or es pos) (tE T X.K W (fun s M => evOr R s ms M) false)
  | .nil, X, S, W, es, pr, xo, hn, h, pos => by
    simp only [chkEs] at h
    rw [h] at hn
    cases hn
  | .cons m .nil, X, S, W, es, pr, xo, hn, h, pos => by
    cases es with
    | nil => simp at hn
    | cons e es =>
      simp only [chkEs, Bool.and_eq_true, Bool.not_eq_true', List.isEmpty_iff] at h
      obtain ⟨h1, h2, h3⟩ := h
      subst h3
      exact (se_and1 (es := []) (ms := .cons m .nil) (cE m false pr xo h2) ⟨m, rfl⟩).2
  | .cons m (.cons m2 ms), X, S, W, es, pr, xo, hn, h, pos => by
    cases es with
    | nil => simp at hn
    | cons e es =>
      rw [chkEs] at h
      simp only [Bool.and_eq_true, Bool.not_eq_true'] at h
      obtain ⟨h1, h2, h3⟩ := h
      cases es with
      | nil => simp [chkEs] at h3
      | cons e2 es => exact se_or (cE m false pr xo h2) (cOr (.cons m2 ms) pr xo rfl h3 pos)
theorem cB : ∀ (m : MB) {X : Cx} {S : SC} {W : WX} {e : Option Expr}, PrX T P R adr n X → XOk S n X W → chkB P S m e = true → PO X e (tO T X.K W fun s M => evB R s m M)
  | .no, X, S, W, e, pr, xo, h => by
    cases e with
    | none => exact so_no
    | some e => simp [chkB] at h
  | .e m, X, S, W, e, pr, xo, h => by
    cases e with
    | none => simp [chkB] at h
    | some e => exact so_e (cE m false pr xo (by simpa only [chkB] using h))
theorem cT : ∀ (t : MT) {X : Cx} {S : SC} {W : WX} {e : Expr}, PrX T P R adr n X → XOk S n X W → chkT P S t e = true → PT X e (tT T X.K W fun s M => evT R s t M)
  | .yes, _, _, _, _, _, _, h => by simp [chkT] at h
  | .e m, X, S, W, e, pr, xo, h => by
    simp only [chkT, Bool.and_eq_true, Bool.or_eq_true] at h
    simp only [evT]
    rcases h with ⟨h1 | h1, h2⟩
    · exact st_e (plainTruth_ok h1) (cE m true pr xo h2)
    · exact cC m pr xo h1 h2
  | .not t, X, S, W, e, pr, xo, h => by
    simp only [chkT] at h
    split at h
    · rename_i a ha
      exact st_not ha (cT t pr xo h)
    · cases h
  | .and ts, X, S, W, e, pr, xo, h => by
    simp only [chkT] at h
    split at h
    · rename_i es ha
      simp only [Bool.and_eq_true] at h
      obtain ⟨p, rfl⟩ := exAnd_ok ha
      simp only [evT]
      exact (cAll ts pr xo h.1 h.2 p).pt
    · cases h
  | .or ts, X, S, W, e, pr, xo, h => by
    simp only [chkT] at h
    split at h
    · rename_i es ha
      simp only [Bool.and_eq_true] at h
      obtain ⟨p, rfl⟩ := exOr_ok ha
      simp only [evT]
      exact (cAny ts pr xo h.1 h.2 p).pt
    · cases h
theorem cC : ∀ (m : ME) {X : Cx} {S : SC} {W : WX} {e : Expr}, PrX T P R adr n X → XOk S n X W → m.isCmp = true → chkE P S m e = true → PT X e (tT T X.K W (fun s M => (evE R true s m M).bind fun x M => .opt (rs s M x).truth M))
  | .op1 o a, X, S, W, e, pr, xo, ho, h => by
    simp only [chkE] at h
    split at h
    · rename_i a' ha
      simp only [evE]
      exact st_1 ho ha (cE a true pr xo h)
    · cases h
  | .op2 o a c, X, S, W, e, pr, xo, ho, h => by
    simp only [chkE] at h
    split at h
    · rename_i a' c' ha
      simp only [Bool.and_eq_true] at h
      simp only [evE]
      obtain ⟨op, hop⟩ := Option.isSome_iff_exists.mp ho
      exact st_2 xo hop ha (cE a true pr xo h.1) (cE c true pr xo h.2)
    · cases h
  | .chain o1 o2 a c d, X, S, W, e, pr, xo, ho, h => by
    simp only [chkE] at h
    split at h
    · rename_i a' p1 b' p2 c' ha
      simp only [Bool.and_eq_true, beq_iff_eq, Bool.not_eq_true'] at h
      obtain ⟨⟨h1, h2, h3⟩, h4, h5, h6⟩ := h
      obtain ⟨r1, g1, s1⟩ := op2_cmp (T := T) xo.units o1 p1 h1
      obtain ⟨r2, g2, s2⟩ := op2_cmp (T := T) xo.units o2 p2 h2
      exact st_chain ha h3 g1 s1 g2 s2 (cmp_bl h2) (cE a false pr xo h4) (cE c false pr xo h5) (cE d false pr xo h6)
    · cases h
  | .var _, _, _, _, _, _, _, h, _ => by simp [ME.isCmp] at h
  | .bor _, _, _, _, _, _, _, h, _ => by simp [ME.isCmp] at h
  | .cst _, _, _, _, _, _, _, h, _ => by simp [ME.isCmp] at h
  | .glob _, _, _, _, _, _, _, h, _ => by simp [ME.isCmp] at h
  | .sl _ _ _, _, _, _, _, _, _, h, _ => by simp [ME.isCmp] at h
  | .tup _, _, _, _, _, _, _, h, _ => by simp [ME.isCmp] at h
  | .disp _, _, _, _, _, _, _, h, _ => by simp [ME.isCmp] at h
  | .ite _ _ _, _, _, _, _, _, _, h, _ => by simp [ME.isCmp] at h
  | .and _, _, _, _, _, _, _, h, _ => by simp [ME.isCmp] at h
  | .or _, _, _, _, _, _, _, h, _ => by simp [ME.isCmp] at h
  | .call _ _, _, _, _, _, _, _, h, _ => by simp [ME.isCmp] at h
  | .comp _ _ _ _ _, _, _, _, _, _, _, h, _ => by simp [ME.isCmp] at h
  | .hp _, _, _, _, _, _, _, h, _ => by simp [ME.isCmp] at h
  | .dnew _, _, _, _, _, _, _, h, _ => by simp [ME.isCmp] at h
  | .fld _ _, _, _, _, _, _, _, h, _ => by simp [ME.isCmp] at h
  | .meth _ _ _, _, _, _, _, _, _, h, _ => by simp [ME.isCmp] at h
  | .new _ _, _, _, _, _, _, _, h, _ => by simp [ME.isCmp] at h
  | .mop _ _ _, _, _, _, _, _, _, h, _ => by simp [ME.isCmp] at h
  | .rop _ _ _, _, _, _, _, _, _, h, _ => by simp [ME.isCmp] at h
theorem cAll : ∀ (ts : MTs) {X : Cx} {S : SC} {W : WX} {es : List Expr}, PrX T P R adr n X → XOk S n X W → (!es.isEmpty) = true → chkTs P S ts es = true → ∀ pos, PW X (.BoolOp .And es pos) (tT T X.K W fun s M => evAll R s ts M)
  | .nil, X, S, W, es, pr, xo, hn, h, pos => by
    simp only [chkTs] at h
    rw [h] at hn
    cases hn
  | .cons t ts, X, S, W, es, pr, xo, hn, h, pos => by
    cases es with
    | nil => simp at hn
    | cons e es =>
      simp only [chkTs, Bool.and_eq_true] at h
      cases es with
      | nil =>
        cases ts with
        | nil => exact st_and1 (cT t pr xo h.1)
        | cons t2 ts => simp [chkTs] at h
      | cons e2 es => exact st_and (cT t pr xo h.1) (cAll ts pr xo rfl h.2 pos)
theorem cAny : ∀ (ts : MTs) {X : Cx} {S : SC} {W : WX} {es : List Expr}, PrX T P R adr n X → XOk S n X W → (!es.isEmpty) = true → chkTs P S ts es = true → ∀ pos, PW X (.BoolOp .Or es pos) (tT T X.K W fun s M => evAny R s ts M)
  | .nil, X, S, W, es, pr, xo, hn, h, pos => by
    simp only [chkTs] at h
    rw [h] at hn
    cases hn
  | .cons t ts, X, S, W, es, pr, xo, hn, h, pos => by
    cases es with
    | nil => simp at hn
    | cons e es =>
      simp only [chkTs, Bool.and_eq_true] at h
      cases es with
      | nil =>
        cases ts with
        | nil => exact st_or1 (cT t pr xo h.1)
        | cons t2 ts => simp [chkTs] at h
      | cons e2 es => exact st_or (cT t pr xo h.1) (cAny ts pr xo rfl h.2 pos)
theorem cI : ∀ (m : MI) {X : Cx} {S : SC} {W : WX} {e : Expr} (tg : Expr), PrX T P R adr n X → XOk S n X W → chkI P S m tg e = true → PI X tg e (tI T X.K W fun s M => evI R s m M)
  | .seq a, X, S, W, e, tg, pr, xo, h => si_seq (cE a true pr xo (by simpa only [chkI] using h))
  | .rng1 a, X, S, W, e, tg, pr, xo, h => by
    simp only [chkI] at h
    split at h
    · rename_i x a' ha
      simp only [Bool.and_eq_true, beq_iff_eq, Bool.not_eq_true'] at h
      obtain ⟨⟨rfl, h2, h3⟩, h4⟩ := h
      exact si_rng1 pr xo ha h2 h3 (cE a false pr xo h4)
    · cases h
  | .rng2 a b, X, S, W, e, tg, pr, xo, h => by
    simp only [chkI] at h
    split at h
    · rename_i x a' b' ha
      simp only [Bool.and_eq_true, beq_iff_eq, Bool.not_eq_true'] at h
      obtain ⟨⟨rfl, h2, h3, h4⟩, h5, h6⟩ := h
      exact si_rng2 pr xo ha h2 h3 h4 (cE a false pr xo h5) (cE b false pr xo h6)
    · cases h
  | .rng3 _ _ _, _, _, _, _, _, _, _, h => by simp [chkI] at h
  | .enum a, X, S, W, e, tg, pr, xo, h => by
    simp only [chkI] at h
    split at h
    · rename_i x a' ha
      simp only [Bool.and_eq_true, beq_iff_eq, Bool.not_eq_true'] at h
      obtain ⟨⟨rfl, h2, h3, h4⟩, h5⟩ := h
      exact si_enum pr xo ha h2 h3 h4 (cE a true pr xo h5)
    · cases h
  | .zip a b, X, S, W, e, tg, pr, xo, h => by
    simp only [chkI] at h
    split at h
    · rename_i x a' b' ha
      simp only [Bool.and_eq_true, beq_iff_eq, Bool.not_eq_true'] at h
      obtain ⟨⟨rfl, h2, h3, h4, h5⟩, h6, h7⟩ := h
      exact si_zip pr xo ha h2 h3 h4 h5 (cE a true pr xo h6) (cE b true pr xo h7)
    · cases h
end
end
end MP

set_option Elab.async false
set_option linter.all false
set_option maxRecDepth 100000
set_option maxHeartbeats 2000000
set_option autoImplicit false
/-! MP, part q: statements: what is wanted of them; small statements -/
namespace MP
open PySem PySem.Spec PyProof.Rows L2

/-- the state in a body whose call began at G0, H0 -/
structure SRel (T : Tb) (K : Frag) (G0 : Gh) (H0 : Hp) (G : Gh) (H : Hp) (σ : L2.St) (s : Sl) (M : MH) : Prop where
  m : RelM T.C K G H M
  sl : RelS K G H σ s
  e : Ext G0 H0 G H
  o : ∀ (i : Nat) l a, s[i]? = some (.own l) → σ[i]? = some (some (.ref a)) → H0 a = none
section
variable (T : Tb) (K : Frag) (W : WX)
def SKf (G0 : Gh) (H0 : Hp) (G : Gh) (H : Hp) (f : Flow) (M' : MH) (D : Ends) : Prop := match f with
  | .nx s' => ∀ G' H' σ', Le G H G' H' → SRel T K G0 H0 G' H' σ' s' M' → D.nx σ' H'
  | .bk s' => ∀ G' H' σ', Le G H G' H' → SRel T K G0 H0 G' H' σ' s' M' → D.bk σ' H'
  | .ct s' => ∀ G' H' σ', Le G H G' H' → SRel T K G0 H0 G' H' σ' s' M' → D.ct σ' H'
  | .rt d => ∀ G' H' v, Ext G0 H0 G' H' → RelM T.C K G' H' M' → Rep K G' H' d v → D.rt v H'
  | .xc c ds s' => ∀ G' H' σ' dx, Le G H G' H' → SRel T K G0 H0 G' H' σ' s' M' → ExcAt T.C K T.exf G' H' c ds dx → W (.ref (T.C.cls c)) dx σ' H'
def SK (G0 : Gh) (H0 : Hp) (G : Gh) (H : Hp) (r : Res Flow) (D : Ends) : Prop := match r with
  | .ok f M' => SKf T K W G0 H0 G H f M' D
  | _ => False
def tS (ev : Sl → MH → Res Flow) : TS := fun D σ H => ∃ G0 H0 G s M, SRel T K G0 H0 G H σ s M ∧ SK T K W G0 H0 G H (ev s M) D
end
section
variable {T : Tb} {P : Pg} {R : MP.Env} {adr : Nat → Addr} {n : Nat} {X : Cx} {S : SC} {W : WX} {b : Bool} {K : Frag} {G0 G G1 G2 : Gh} {H0 H H1 H2 : Hp} {σ : L2.St} {s : Sl} {M M1 : MH} {D' : Ends}
theorem Le.trans (a : Le G H G1 H1) (b : Le G1 H1 G2 H2) : Le G H G2 H2 := ⟨fun r x h => b.mu r x (a.mu r x h), fun x h => b.fz x (a.fz x h), fun x h => by rw [b.fl x (a.fz x h), a.fl x h], fun x xs h => b.tup x xs (a.tup x xs h), fun x o u h => b.frz x o u (a.frz x o u h), fun x o h => b.own x o (a.own x o h)⟩
theorem Le.refl : Le G H G H := Ext.refl.le
theorem SKf.le {f : Flow} (h : SKf T K W G0 H0 G H f M D') (e : Le G H G1 H1) : SKf T K W G0 H0 G1 H1 f M D' := by
  cases f with
  | nx s' => exact fun G' H' σ' l r => h G' H' σ' (e.trans l) r
  | bk s' => exact fun G' H' σ' l r => h G' H' σ' (e.trans l) r
  | ct s' => exact fun G' H' σ' l r => h G' H' σ' (e.trans l) r
  | rt d => exact h
  | xc c ds s' => exact fun G' H' σ' dx l r => h G' H' σ' dx (e.trans l) r
theorem SK.le {r : Res Flow} (h : SK T K W G0 H0 G H r D') (e : Le G H G1 H1) : SK T K W G0 H0 G1 H1 r D' := by
  cases r with
  | ok f M => exact SKf.le h e
  | exc c fs M => exact h
  | bad => exact h
theorem SRel.mono (h : SRel T K G0 H0 G H σ s M) (e : Ext G H G1 H1) (m : RelM T.C K G1 H1 M1) : SRel T K G0 H0 G1 H1 σ s M1 := ⟨m, h.sl.mono e, h.e.trans e, h.o⟩
theorem SK.sb {α β : Type} {r : Res α} {f : α → MH → Res Flow} {rep1 : Gh → Hp → MH → α → β → Prop} {Q1 : β → Hp → Prop} (hr : SRel T K G0 H0 G H σ s M) (h : SK T K W G0 H0 G H (r.sb s f) D')
    (k : ∀ a M1 G1 H1 b, Ext G H G1 H1 → SRel T K G0 H0 G1 H1 σ s M1 → rep1 G1 H1 M1 a b → SK T K W G0 H0 G1 H1 (f a M1) D' → Q1 b H1) : Kont T K W σ G H r rep1 Q1 := by
  cases r with
  | ok a M1 => exact fun G1 H1 b e m q => k a M1 G1 H1 b e (hr.mono e m) q (SK.le h e.le)
  | exc c ds M1 => exact fun G1 H1 dx e m q => h G1 H1 σ dx e.le (hr.mono e m) q
  | bad => exact h
theorem SK.optb {α : Type} {o : Option α} {f : α → MH → Res Flow} (h : SK T K W G0 H0 G H ((Res.opt o M).bind f) D') : ∃ z, o = some z ∧ SK T K W G0 H0 G H (f z M) D' := by
  cases o with
  | none => exact h.elim
  | some z => exact ⟨z, rfl, h⟩
/-! ### changes of the state -/
theorem nodup_inj {α : Type} {l : List α} (h : l.Nodup) {i j : Nat} {a : α} (hi : l[i]? = some a) (hj : l[j]? = some a) : i = j := by
  obtain ⟨h1, e1⟩ := List.getElem?_eq_some_iff.mp hi
  obtain ⟨h2, e2⟩ := List.getElem?_eq_some_iff.mp hj
  have p := List.pairwise_iff_getElem.mp h
  rcases Nat.lt_trichotomy i j with q | q | q
  · exact absurd (e1.trans e2.symm) (p i j h1 h2 q)
  · exact q
  · exact absurd (e2.trans e1.symm) (p j i h2 h1 q)
theorem get_set {α : Type} {l : List α} {i j : Nat} {x y : α} (h : (l.set i x)[j]? = some y) : (i = j ∧ y = x) ∨ (i ≠ j ∧ l[j]? = some y) := by
  by_cases e : i = j
  · subst e
    have hl : i < l.length := by
      have := (List.getElem?_eq_some_iff.mp h).1
      simpa using this
    rw [List.getElem?_set_self hl] at h
    exact .inl ⟨rfl, (Option.some.inj h).symm⟩
  · rw [List.getElem?_set_ne e] at h
    exact .inr ⟨e, h⟩
theorem SRel.setV {i : Nat} {d : D} {v : V} (h : SRel T K G0 H0 G H σ s M) (r : Rep K G H d v) : SRel T K G0 H0 G H (σ.set i (some v)) (s.set i (.val d)) M := ⟨h.m, h.sl.setV r, h.e, fun j l a h1 h2 => by
  rcases get_set h1 with ⟨_, e⟩ | ⟨e, h1⟩
  · cases e
  · rw [List.getElem?_set_ne e] at h2
    exact h.o j l a h1 h2⟩
/-- a new list becomes a name's own -/
theorem SRel.setO {i : Nat} {l : List D} {p : Addr} {xs : List V} {H' : Hp} (h : SRel T K G0 H0 G H σ s M) (hp : H' p = none) (he : Ext G0 H0 G H) (hs : ∀ (j : Nat) m a, s[j]? = some (.own m) → σ[j]? = some (some (.ref a)) → a ≠ p) (h0 : H0 p = none) (hx : H p = some (.lst xs)) (hm : p ∉ G.mu) (hf : ¬ G.fz p) (r : Reps K G H l xs) :
    SRel T K G0 H0 G H (σ.set i (some (.ref p))) (s.set i (.own l)) M := by
  refine ⟨h.m, ⟨by simp [h.sl.len], fun j d q => ?_, fun j m q => ?_, fun j k m m' a hjk q1 q2 q3 => ?_⟩, h.e, fun j m a h1 h2 => ?_⟩
  · rcases get_set q with ⟨_, e⟩ | ⟨e, q⟩
    · cases e
    · rw [List.getElem?_set_ne e]
      exact h.sl.val j d q
  · by_cases e : i = j
    · subst e
      have hl : i < s.length := by
        have := (List.getElem?_eq_some_iff.mp q).1
        simpa using this
      rw [List.getElem?_set_self hl] at q
      cases q
      exact ⟨p, xs, List.getElem?_set_self (by rw [← h.sl.len]; exact hl), hx, r, hm, hf⟩
    · rw [List.getElem?_set_ne e] at q ⊢
      exact h.sl.own j m q
  · by_cases e : i = j
    · subst e
      have hl : i < s.length := by
        have := (List.getElem?_eq_some_iff.mp q1).1
        simpa using this
      rw [List.getElem?_set_self (by rw [← h.sl.len]; exact hl)] at q3
      cases q3
      rw [List.getElem?_set_ne hjk] at q2 ⊢
      exact fun z => hs k m' _ q2 z rfl
    · rw [List.getElem?_set_ne e] at q1 q3
      by_cases e2 : i = k
      · subst e2
        intro z
        have hl : i < s.length := by
          have := (List.getElem?_eq_some_iff.mp q2).1
          simpa using this
        rw [List.getElem?_set_self (by rw [← h.sl.len]; exact hl)] at z
        cases z
        exact hs j m _ q1 q3 rfl
      · rw [List.getElem?_set_ne e2] at q2 ⊢
        exact h.sl.dis j k m m' a hjk q1 q2 q3
  · rcases get_set h1 with ⟨e, e'⟩ | ⟨e, h1⟩
    · subst e
      have hl : i < s.length := by
        have := (List.getElem?_eq_some_iff.mp h1).1
        simpa using this
      rw [List.getElem?_set_self (by rw [← h.sl.len]; exact hl)] at h2
      cases h2
      exact h0
    · rw [List.getElem?_set_ne e] at h2
      exact h.o j m a h1 h2
/-- a name's own list is changed -/
theorem SRel.updO {i : Nat} {l l' : List D} {a : Addr} {ys : List V} (h : SRel T K G0 H0 G H σ s M) (hs : s[i]? = some (.own l)) (ha : σ[i]? = some (some (.ref a))) (r : Reps K G H l' ys) :
    SRel T K G0 H0 G (upd H a (.lst ys)) σ (s.set i (.own l')) M ∧ Le G H G (upd H a (.lst ys)) := by
  obtain ⟨a', xs, h1, h2, h3, h4, h5⟩ := h.sl.own i l hs
  rw [ha] at h1
  cases h1
  have le := Le.seto (o := .lst ys) h2 h5
  refine ⟨⟨h.m.seto h2 h4 h5, ⟨by simp [h.sl.len], fun j d q => ?_, fun j m q => ?_, fun j k m m' b hjk q1 q2 q3 => ?_⟩, h.e.seto (h.o i l a hs ha) h2 h5, fun j m b q1 q2 => ?_⟩, le⟩
  · rcases get_set q with ⟨_, e⟩ | ⟨e, q⟩
    · cases e
    · obtain ⟨v, g1, g2⟩ := h.sl.val j d q
      exact ⟨v, g1, g2.le le⟩
  · rcases get_set q with ⟨e, e'⟩ | ⟨e, q⟩
    · subst e
      cases e'
      exact ⟨a, ys, ha, upd_same, r.le le, h4, h5⟩
    · obtain ⟨b, zs, g1, g2, g3, g4, g5⟩ := h.sl.own j m q
      refine ⟨b, zs, g1, ?_, g3.le le, g4, g5⟩
      rw [upd_ne (fun z => by subst z; exact h.sl.dis i j l m b e hs q ha g1)]
      exact g2
  · have w : ∀ {j : Nat} {m : List D}, (s.set i (.own l'))[j]? = some (.own m) → ∃ m0, s[j]? = some (.own m0) := fun {j m} q => by
      rcases get_set q with ⟨e, _⟩ | ⟨_, q⟩
      · subst e; exact ⟨l, hs⟩
      · exact ⟨m, q⟩
    obtain ⟨m1, w1⟩ := w q1
    obtain ⟨m2, w2⟩ := w q2
    exact h.sl.dis j k m1 m2 b hjk w1 w2 q3
  · rcases get_set q1 with ⟨e, _⟩ | ⟨_, q⟩
    · subst e; exact h.o i l b hs q2
    · exact h.o j m b q q2
/-- an object of the small heap is changed -/
theorem SRel.updR {r : Nat} {p : Addr} {u v : HO} {o' : MO} (h : SRel T K G0 H0 G H σ s M) (hr : G.mu[r]? = some p) (hu : H p = some u) (hm : Mut (some u)) (ht : ∀ xs, u ≠ .tup xs) (hz : ∀ o w, u ≠ .frz o w) (hw : ∀ x, u ≠ .own x) (ho : RepO T.C K G (upd H p v) p o') :
    SRel T K G0 H0 G (upd H p v) σ s (M.set r o') ∧ Le G H G (upd H p v) := by
  have hp : p ∈ G.mu := List.mem_of_getElem? hr
  have le : Le G H G (upd H p v) := by
    refine ⟨fun _ _ h => h, fun _ h => h, fun a ha => upd_ne fun e => h.m.nfz p hp (e ▸ ha), fun a xs q => ?_, fun a o w q => ?_, fun a x q => ?_⟩
    · rcases q with q | ⟨o, q⟩
      · exact .inl (by rw [upd_ne (fun e => by subst e; rw [hu] at q; exact ht _ (Option.some.inj q))]; exact q)
      · exact .inr ⟨o, by rw [upd_ne (fun e => by subst e; rw [hu] at q; exact hz _ _ (Option.some.inj q))]; exact q⟩
    · rw [upd_ne (fun e => by subst e; rw [hu] at q; exact hz _ _ (Option.some.inj q))]; exact q
    · rw [upd_ne (fun e => by subst e; rw [hu] at q; exact hw _ (Option.some.inj q))]; exact q
  refine ⟨⟨⟨by simp [h.m.len], h.m.nd, h.m.nfz, fun k a w h1 h2 => ?_, fun a ha => ?_⟩, ⟨h.sl.len, fun j d q => ?_, fun j m q => ?_, h.sl.dis⟩, ?_, h.o⟩, le⟩
  · rcases get_set h2 with ⟨e, e'⟩ | ⟨e, h2⟩
    · subst e
      subst e'
      rw [hr] at h1
      cases h1
      exact ho
    · refine (h.m.ob k a w h1 h2).mono le fun x q => ?_
      have hne : a ≠ p := fun z => by
        subst z
        exact e (nodup_inj h.m.nd hr h1)
      rw [upd_ne hne]; exact q
  · rw [le.fl a ha]; exact h.m.fzl a ha
  · obtain ⟨x, g1, g2⟩ := h.sl.val j d q
    exact ⟨x, g1, g2.le le⟩
  · obtain ⟨b, zs, g1, g2, g3, g4, g5⟩ := h.sl.own j m q
    exact ⟨b, zs, g1, by rw [upd_ne (fun z : b = p => g4 (by rw [z]; exact hp))]; exact g2, g3.le le, g4, g5⟩
  · obtain ⟨t, e1, n1⟩ := h.e.mu
    have hp0 : ∀ {a w}, H0 a = some w → a ∉ G0.mu → a ≠ p := fun {a w} q hm z => by
      subst z
      rw [e1] at hp
      rcases List.mem_append.mp hp with g | g
      · exact hm g
      · rw [n1 a g] at q; cases q
    refine ⟨⟨t, e1, n1⟩, h.e.fz, h.e.nfz, fun a w q hm => ?_, fun a ha => ?_, fun a xs q => le.tup a xs (h.e.tup a xs q), fun a o w q => le.frz a o w (h.e.frz a o w q), fun a x q => le.own a x (h.e.own a x q), fun a q => ?_⟩
    · rw [upd_ne (hp0 q hm)]; exact h.e.keep a w q hm
    · rw [le.fl a (h.e.fz a ha)]; exact h.e.fl a ha
    · by_cases z : a = p
      · subst z; rw [upd_same]; simp
      · rw [upd_ne z]; exact h.e.there a q
/-- a name's own list is frozen -/
theorem SRel.frz {i : Nat} {l : List D} (h : SRel T K G0 H0 G H σ s M) (hs : s[i]? = some (.own l)) : ∃ a, σ[i]? = some (some (.ref a)) ∧ SRel T K G0 H0 (G.freeze a) H σ (s.set i (.val (.lst l))) M ∧ Le G H (G.freeze a) H ∧ Ext G0 H0 (G.freeze a) H ∧ RelM T.C K (G.freeze a) H M ∧ Rep K (G.freeze a) H (.lst l) (.ref a) := by
  obtain ⟨a, xs, h1, h2, h3, h4, h5⟩ := h.sl.own i l hs
  have le : Le G H (G.freeze a) H := Le.freeze
  have rp : Rep K (G.freeze a) H (.lst l) (.ref a) := .lst (.inr rfl) h2 (h3.le le)
  have ex : Ext G0 H0 (G.freeze a) H := ⟨h.e.mu, fun x q => .inl (h.e.fz x q), fun x q => by
    rcases q with q | q
    · exact h.e.nfz x q
    · exact .inr (by rw [q]; exact h.o i l a hs h1), h.e.keep, h.e.fl, h.e.tup, h.e.frz, h.e.own, h.e.there⟩
  have rm := h.m.freeze h2 h4
  refine ⟨a, h1, ⟨rm, ⟨by simp [h.sl.len], fun j d q => ?_, fun j m q => ?_, fun j k m m' b hjk q1 q2 q3 => ?_⟩, ex, fun j m b q1 q2 => ?_⟩, le, ex, rm, rp⟩
  · rcases get_set q with ⟨e, e'⟩ | ⟨e, q⟩
    · subst e
      cases e'
      exact ⟨_, h1, rp⟩
    · obtain ⟨x, g1, g2⟩ := h.sl.val j d q
      exact ⟨x, g1, g2.le le⟩
  · rcases get_set q with ⟨e, e'⟩ | ⟨e, q⟩
    · cases e'
    · obtain ⟨b, zs, g1, g2, g3, g4, g5⟩ := h.sl.own j m q
      exact ⟨b, zs, g1, g2, g3.le le, g4, fun z => z.elim g5 fun z => by subst z; exact h.sl.dis i j l m b e hs q h1 g1⟩
  · rcases get_set q1 with ⟨_, e'⟩ | ⟨_, q1⟩
    · cases e'
    · rcases get_set q2 with ⟨_, e'⟩ | ⟨_, q2⟩
      · cases e'
      · exact h.sl.dis j k m m' b hjk q1 q2 q3
  · rcases get_set q1 with ⟨_, e'⟩ | ⟨_, q1⟩
    · cases e'
    · exact h.o j m b q1 q2
end
end MP

set_option Elab.async false
set_option linter.all false
set_option maxRecDepth 100000
set_option maxHeartbeats 2000000
set_option autoImplicit false
/-! MP, part r: small statements -/
namespace MP
open PySem PySem.Spec PyProof.Rows L2

def exIsComp : Expr → Bool
  | .ListComp _ _ _ _ => true
  | .SetComp _ _ _ _ => true
  | .DictComp _ _ _ _ _ => true
  | _ => false
theorem noComp {e : Expr} {t : Option Expr} {l : Nat} {env : PySem.Env} (h : exIsComp e = false) : swapsWith e t l env = pure false := by
  cases e <;> first | rfl | (simp [exIsComp] at h)
/-- a context of a body's statements -/
structure XOs (S : SC) (n : Nat) (X : Cx) (W : WX) : Prop where
  ok : XOk S n X W
  po : PassesOwn (model X.prog X.w) X.A X.env X.xe
  kd : X.env.scope.kind = .function
  st : X.stack = X.env :: X.outer
  fr : X.env.frame = some X.env.locals

section
variable {T : Tb} {P : Pg} {R : MP.Env} {adr : Nat → Addr} {n : Nat} {X : Cx} {S : SC} {W : WX} {b : Bool} {K : Frag}
/-- y = [.. for ..] on one line -/
def lineOk (S : SC) (y : Str) (e : Expr) (l : Nat) (py : Nat) : Bool := S.names.lookup y == some .local && (py == e.pos.line && match e with
  | .ListComp _ _ sc _ => !(sc.names.any fun (n, k) => n == y && (k == .local || k == .cell))
  | _ => false)
theorem swaps_true {S : SC} {y : Str} {py : Pos} {elt : Expr} {gs : List Comprehension} {sc : Scope} {p : Pos} {l : Nat} (xo : XOs S n X W) (h : lineOk S y (.ListComp elt gs sc p) l py.line = true) : swapsWith (.ListComp elt gs sc p) (some (.Name y py)) l X.env = pure true := by
  unfold lineOk at h
  simp only [Bool.and_eq_true, beq_iff_eq] at h
  obtain ⟨h1, h2, h3⟩ := h
  have hk : X.env.kindOf y = some .local := by
    rcases xo.ok.sc y _ h1 with q | ⟨q, _⟩
    · exact q
    · cases q
  have hb : X.env.blockKind = .function := by
    unfold PySem.Env.blockKind
    rw [xo.kd]
    rfl
  show (do return X.env.blockKind == .function && X.env.kindOf y == some .local && py.line == p.line && !(sc.names.any fun (n, k) => n == y && (k == .local || k == .cell)) : Sem Bool) = _
  have h2' : py.line = p.line := h2
  rw [hb, hk, h2', h3]
  simp
theorem sa_L {m : ME} {e : Expr} {i : Nat} {y : Str} {py sp : Pos} (pr : PrX T P R adr n X) (xo : XOs S n X W) (hm : m.isL = true) (h : chkE P S m e = true) (hi : S.N[i]? = some y) (hl : lineOk S y e sp.line py.line = true ∨ (exIsComp e = false ∧ isLoc S y = true)) :
    PS X (.Assign [.Name y py] e sp) (tAsg (tL T X.K W (fun s M => evE R false s m M)) (gName i)) := by
  rcases hl with hl | ⟨hl, hly⟩
  · have hloc : X.env.scope.names.lookup y = some .local := by
      unfold lineOk at hl
      simp only [Bool.and_eq_true, beq_iff_eq] at hl
      rcases xo.ok.sc y _ hl.1 with q | ⟨q, _⟩
      · exact q
      · cases q
    cases m with
    | comp own g it t el =>
      obtain ⟨elt, tg, iter, ifs, sc, h1, h2, h3, h4, h5, h6, h7, h8⟩ := comp_parts h
      obtain ⟨p, rfl⟩ := exComp_ok h1
      have hfs : ∀ x, foldedSetIterable iter X.env x = pure x := fun x => by
        cases iter <;> first | rfl | (simp [exSet] at h4)
      refine (ps_setLc (own := ownP S own) (g := tG T X.K g) (tt := tT T X.K W0 fun s M => evT R s t M) (te := tE T X.K W0 (fun s M => evE R false s el M) false) xo.ok.calm (by rw [xo.ok.N]; exact xo.ok.nd) (by rw [xo.ok.N]; exact hi) hloc (swaps_true xo hl) (cI it tg pr xo.ok h6) (blk_ok xo.ok h2) (fun s H C cl fp => sg (T := T) (xo.ok.blk (s := s) (H := H) (C := C) (cl := cl) (fp := fp)) g tg h5) (fun s H C cl fp => ?_) (fun s H C cl fp => cE el false pr xo.ok.blk h8) hfs).weak fun D' σ H q => ?_
      · rcases h7 with ⟨rfl, rfl⟩ | ⟨c, rfl, h7⟩
        · exact pts_yes
        · exact pts_one (cT t pr xo.ok.blk h7)
      · rw [ownP_snd]
        exact comp_w h3 q
    | disp es =>
      exfalso
      simp only [chkE] at h
      split at h
      · rename_i es' he
        obtain ⟨p, rfl⟩ := exList_ok he
        unfold lineOk at hl
        simp at hl
      · cases h
    | _ => simp [ME.isL] at hm
  · obtain ⟨h1, h2⟩ := xo.ok.loc hly
    exact ps_set (by rw [xo.ok.N]; exact xo.ok.nd) (by rw [xo.ok.N]; exact hi) h1 (cL m pr xo.ok hm h) (noComp hl) h2
/-- y = e -/
theorem ss_set {m : ME} {e : Expr} {i : Nat} {y : Str} {py sp : Pos} (pr : PrX T P R adr n X) (xo : XOs S n X W) (h : chkE P S m e = true) (hi : S.N[i]? = some y) (hl : (lineOk S y e sp.line py.line = true ∧ m.isL = true) ∨ (exIsComp e = false ∧ isLoc S y = true)) :
    PS X (.Assign [.Name y py] e sp) (tS T X.K W (fun s M => ex R (.set i m) s M)) := by
  have fin : ∀ {te : TE}, PS X (.Assign [.Name y py] e sp) (tAsg te (gName i)) → (∀ σ H Q, tE T X.K W (fun s M => evE R false s m M) false σ H Q → te σ H Q) → PS X (.Assign [.Name y py] e sp) (tS T X.K W (fun s M => ex R (.set i m) s M)) := fun {te} hp w => hp.weak fun D' σ H ⟨G0, H0, G, s, M, hr, q⟩ => by
    simp only [ex] at q
    exact w σ H _ ⟨G, s, M, hr.m, hr.sl, SK.sb hr q fun d M1 G1 H1 v e1 r1 rv k => k G1 H1 _ Le.refl (r1.setV (not_own rv))⟩
  rcases hl with ⟨hl, hm⟩ | ⟨hl, hly⟩
  · refine fin (sa_L pr xo hm h hi (.inl hl)) fun σ H Q ⟨G, s, M, hM, hS, k⟩ => tL.toE (b := false) ⟨G, s, M, hM, hS, fun d M' => isL_lst hm, k⟩
  · obtain ⟨h1, h2⟩ := xo.ok.loc hly
    exact fin (ps_set (by rw [xo.ok.N]; exact xo.ok.nd) (by rw [xo.ok.N]; exact hi) h1 (cE m false pr xo.ok h) (noComp hl) h2) fun σ H Q k => k
/-- y = a new list, y's own -/
theorem ss_setO {m : ME} {e : Expr} {i : Nat} {y : Str} {py sp : Pos} (pr : PrX T P R adr n X) (xo : XOs S n X W) (hm : m.isL = true) (h : chkE P S m e = true) (hi : S.N[i]? = some y) (hl : lineOk S y e sp.line py.line = true ∨ (exIsComp e = false ∧ isLoc S y = true)) :
    PS X (.Assign [.Name y py] e sp) (tS T X.K W (fun s M => ex R (.setO i m) s M)) := by
  refine (sa_L pr xo hm h hi hl).weak fun D' σ H ⟨G0, H0, G, s, M, hr, q⟩ => ?_
  simp only [ex] at q
  refine ⟨G, s, M, hr.m, hr.sl, fun d M' => isL_lst hm, SK.sb hr q fun d M1 G1 H1 v e1 r1 rv k => ?_⟩
  obtain ⟨l, p, xs, ed, ev, hp, hp', hmu, hf, r⟩ := rv
  subst ed
  subst ev
  refine k G1 H1 _ Le.refl (r1.setO (H' := H) hp r1.e (fun j m' a q1 q2 z => ?_) (none_of hr.e hp) hp' hmu hf r)
  subst z
  obtain ⟨a', ys, g1, g2, _⟩ := hr.sl.own j m' q1
  rw [q2] at g1
  cases g1
  rw [hp] at g2
  cases g2
/-- an expression, its value dropped -/
theorem ss_ex {m : ME} {e : Expr} {sp : Pos} (pr : PrX T P R adr n X) (xo : XOs S n X W) (h : chkE P S m e = true) (hl : exIsComp e = false) : PS X (.Expr e sp) (tS T X.K W (fun s M => ex R (.ex m) s M)) := by
  refine (ps_expr (cE m false pr xo.ok h) (noComp hl)).weak fun D' σ H ⟨G0, H0, G, s, M, hr, q⟩ => ?_
  simp only [ex] at q
  exact ⟨G, s, M, hr.m, hr.sl, SK.sb hr q fun d M1 G1 H1 v e1 r1 rv k => k G1 H1 _ Le.refl r1⟩
theorem ss_ret {m : ME} {e : Expr} {sp : Pos} (pr : PrX T P R adr n X) (xo : XOs S n X W) (h : chkE P S m e = true) : PS X (.Return (some e) sp) (tS T X.K W (fun s M => ex R (.ret m) s M)) := by
  refine (ps_ret (cE m false pr xo.ok h)).weak fun D' σ H ⟨G0, H0, G, s, M, hr, q⟩ => ?_
  simp only [ex] at q
  exact ⟨G, s, M, hr.m, hr.sl, SK.sb hr q fun d M1 G1 H1 v e1 r1 rv k => k G1 H1 _ r1.e r1.m (not_own rv)⟩
theorem ss_retO {e : Expr} {i : Nat} {y : Str} {sp : Pos} (xo : XOs S n X W) (he : exName e = some y) (hi : S.N[i]? = some y) (hv : isVis S y = true) (hn : okName y = true) : PS X (.Return (some e) sp) (tS T X.K W (fun s M => ex R (.retO i) s M)) := by
  obtain ⟨p, rfl⟩ := exName_ok he
  obtain ⟨h1, h2⟩ := okName_ok hn
  refine (ps_ret (pe_var (i := i) (by rw [xo.ok.N]; exact hi) (xo.ok.vis hv) h1 h2)).weak fun D' σ H ⟨G0, H0, G, s, M, hr, q⟩ => ?_
  simp only [ex] at q
  split at q
  · rename_i l e
    obtain ⟨a, g1, g2, g3, g4, g5, g6⟩ := hr.frz e
    exact ⟨.ref a, g1, q _ _ _ g4 g5 g6⟩
  · exact q.elim
theorem ss_retN {sp : Pos} : PS X (.Return none sp) (tS T X.K W (fun s M => ex R .retN s M)) := ps_retN.weak fun D' σ H ⟨G0, H0, G, s, M, hr, q⟩ => by
  simp only [ex] at q
  exact q G H .non hr.e hr.m .non
theorem ss_pass {sp : Pos} : PS X (.Pass sp) (tS T X.K W (fun s M => ex R .pass s M)) := ps_pass.weak fun D' σ H ⟨G0, H0, G, s, M, hr, q⟩ => by
  simp only [ex] at q
  exact q G H σ Le.refl hr
theorem ss_brk {sp : Pos} : PS X (.Break sp) (tS T X.K W (fun s M => ex R .brk s M)) := ps_break.weak fun D' σ H ⟨G0, H0, G, s, M, hr, q⟩ => by
  simp only [ex] at q
  exact q G H σ Le.refl hr
theorem ss_cont {sp : Pos} : PS X (.Continue sp) (tS T X.K W (fun s M => ex R .cont s M)) := ps_continue.weak fun D' σ H ⟨G0, H0, G, s, M, hr, q⟩ => by
  simp only [ex] at q
  exact q G H σ Le.refl hr
/-- y.append(e), y's own list -/
theorem ss_app {m : ME} {o e : Expr} {i : Nat} {y : Str} {ap cp sp : Pos} (pr : PrX T P R adr n X) (xo : XOs S n X W) (ho : exName o = some y) (hi : S.N[i]? = some y) (hv : isVis S y = true) (hn : okName y = true) (hs : exStar e = false) (hline : (ap.endLine == cp.line) = true) (h : chkE P S m e = true) :
    PS X (.Expr (.Call (.Attribute o "append" ap) [e] [] cp) sp) (tS T X.K W (fun s M => ex R (.app i m) s M)) := by
  obtain ⟨p, rfl⟩ := exName_ok ho
  obtain ⟨h1, h2⟩ := okName_ok hn
  have hp := pe_bm (T := "list") (es := []) F.plainAttrs_list F.slot_list_append F.type_list_append mt_append (pe_var (i := i) (pos := p) (by rw [xo.ok.N]; exact hi) (xo.ok.vis hv) h1 h2) (pa_cons (cE m false pr xo.ok h) pa_nil (star_cons hs)) rfl (by rw [star_cons hs]; rfl) hline (star_cons hs) rfl
  refine (ps_expr hp rfl).weak fun D' σ H ⟨G0, H0, G, s, M, hr, q⟩ => ?_
  simp only [ex] at q
  split at q
  · rename_i l hl
    obtain ⟨a, xs, g1, g2, g3, g4, g5⟩ := hr.sl.own i l hl
    refine ⟨.ref a, g1, .inl ⟨rfl, xs, SqL.of g2⟩, G, s, M, hr.m, hr.sl, SK.sb hr q fun d M1 G1 H1 v e1 r1 rv k => ?_⟩
    have rv := not_own rv
    have g2' := e1.keep a _ g2 g4
    by_cases hz : l.length < sizeLine
    · rw [if_pos hz] at k
      obtain ⟨s1, le⟩ := r1.updO hl g1 ((g3.mono e1).append (.cons rv .nil))
      exact ⟨a, xs, v, rfl, rfl, g2', by rw [← g3.length]; exact hz, k G1 _ _ le s1⟩
    · rw [if_neg hz] at k; exact k.elim
  · exact q.elim
end
end MP

set_option Elab.async false
set_option linter.all false
set_option maxRecDepth 100000
set_option maxHeartbeats 2000000
set_option autoImplicit false
/-! MP, part s: stores, op=, if, loops -/
namespace MP
open PySem PySem.Spec PyProof.Rows L2

theorem swaps_sub {e a b : Expr} {p : Pos} {l : Nat} {env : PySem.Env} : swapsWithSole [.Subscript a b p] e l env = pure false := by cases e <;> rfl
theorem swaps_tup {e : Expr} {ts : List Expr} {k : Nat} {p : Pos} {l : Nat} {env : PySem.Env} : swapsWithSole [.Tuple ts k p] e l env = pure false := by cases e <;> rfl
theorem swapped_tup {e : Expr} {ts : List Expr} {k : Nat} {p : Pos} {env : PySem.Env} (h : exTupT e = false) : swappedStores [.Tuple ts k p] e env = pure none := by
  cases e <;> first | rfl | (simp [exTupT] at h)
theorem assign_sub {o i : Expr} {pos : Pos} {env : PySem.Env} (h : exSl i = false) : ∀ v, assign (.Subscript o i pos) env v = (do
      let ov ← holding [v] (eval o env)
      let iv ← holding [v, ov] (eval i env)
      standAt pos
      holding [v, ov, iv] (setItem ov iv v)
      release [v, ov, iv] []) := by
  intro v
  cases i <;> first | rfl | (simp [exSl] at h)
mutual
theorem bindG_own : ∀ (g : MG) {d : D} {s s' : Sl} {j : Nat} {l : List D}, bindG g d s = some s' → s'[j]? = some (.own l) → s[j]? = some (.own l) ∧ j ∉ g.ixs
  | .nm i, d, s, s', j, l, h, h2 => by
    simp only [bindG] at h
    cases h
    rcases get_set h2 with ⟨_, e⟩ | ⟨e, h2⟩
    · cases e
    · exact ⟨h2, by simp [MG.ixs, Ne.symm e]⟩
  | .tup gs, d, s, s', j, l, h, h2 => by
    cases d with
    | tup ds => simp only [bindG] at h; exact bindGs_own gs h h2
    | lst ds => simp only [bindG] at h; exact bindGs_own gs h h2
    | _ => simp [bindG] at h
theorem bindGs_own : ∀ (gs : MGs) {ds : List D} {s s' : Sl} {j : Nat} {l : List D}, bindGs gs ds s = some s' → s'[j]? = some (.own l) → s[j]? = some (.own l) ∧ j ∉ gs.ixs
  | .nil, ds, s, s', j, l, h, h2 => by
    cases ds with
    | nil => simp only [bindGs] at h; cases h; exact ⟨h2, by simp [MGs.ixs]⟩
    | cons d ds => simp [bindGs] at h
  | .cons g gs, ds, s, s', j, l, h, h2 => by
    cases ds with
    | nil => simp [bindGs] at h
    | cons d ds =>
      simp only [bindGs] at h
      cases e1 : bindG g d s with
      | none => rw [e1] at h; cases h
      | some s1 =>
        rw [e1] at h
        have h : bindGs gs ds s1 = some s' := h
        obtain ⟨h3, h4⟩ := bindGs_own gs h h2
        obtain ⟨h5, h6⟩ := bindG_own g e1 h3
        exact ⟨h5, by simp [MGs.ixs, h4, h6]⟩
end
def Op2.abin : Op2 → Option Operator
  | .add => some .Add
  | .sub => some .Sub
  | .mul => some .Mult
  | .fdiv => some .FloorDiv
  | .mod => some .Mod
  | .band => some .BitAnd
  | .bor => some .BitOr
  | .bxor => some .BitXor
  | .shl => some .LShift
  | .shr => some .RShift
  | _ => none
section
variable {T : Tb} {P : Pg} {R : MP.Env} {adr : Nat → Addr} {n : Nat} {X : Cx} {S : SC} {W : WX} {b : Bool} {K : Frag}
theorem SRel.bind {G0 G : Gh} {H0 H : Hp} {σ σ' : L2.St} {s s' : Sl} {M : MH} {g : MG} {d : D} (h : SRel T K G0 H0 G H σ s M) (e : bindG g d s = some s') (hS : RelS K G H σ' s') (hk : ∀ i, i ∉ g.ixs → σ'[i]? = σ[i]?) : SRel T K G0 H0 G H σ' s' M := ⟨h.m, hS, h.e, fun j l a h1 h2 => by
  obtain ⟨h3, h4⟩ := bindG_own g e h1
  rw [hk j h4] at h2
  exact h.o j l a h3 h2⟩
theorem ss_unp {gs : MGs} {m : ME} {ts : List Expr} {k : Nat} {p sp : Pos} {e : Expr} (pr : PrX T P R adr n X) (xo : XOs S n X W) (hg : chkGs S gs ts = true) (ht : exTupT e = false) (h : chkE P S m e = true) : PS X (.Assign [.Tuple ts k p] e sp) (tS T X.K W (fun s M => ex R (.unp (.tup gs) m) s M)) := by
  refine (ps_asg (cE m true pr xo.ok h) (sg (T := T) xo.ok (.tup gs) (.Tuple ts k p) (by simpa only [chkG] using hg)) swaps_tup (swapped_tup ht) rfl).weak fun D' σ H ⟨G0, H0, G, s, M, hr, q⟩ => ?_
  simp only [ex] at q
  refine ⟨G, s, M, hr.m, hr.sl, SK.sb hr q fun d M1 G1 H1 v e1 r1 rv k => ?_⟩
  obtain ⟨s', es, k⟩ := k.optb
  refine ⟨G1, s, _, s', r1.sl, .inr ⟨repB_rs r1.m r1.sl rv, gs, rfl⟩, es, fun σ' hS' _ hk' => k G1 H1 σ' Le.refl (r1.bind es hS' hk')⟩
theorem ss_sat {mo mi me : ME} {o i e : Expr} {p sp : Pos} (pr : PrX T P R adr n X) (xo : XOs S n X W) (hs : exSl i = false) (ho : chkE P S mo o = true) (hi : chkE P S mi i = true) (he : chkE P S me e = true) : PS X (.Assign [.Subscript o i p] e sp) (tS T X.K W (fun s M => ex R (.sat mo mi me) s M)) := by
  refine (ps_asg (cE me false pr xo.ok he) (pg_sub (cE mo false pr xo.ok ho) (cE mi false pr xo.ok hi) set_list (assign_sub hs)) swaps_sub rfl rfl).weak fun D' σ H ⟨G0, H0, G, s, M, hr, q⟩ => ?_
  simp only [ex] at q
  refine ⟨G, s, M, hr.m, hr.sl, SK.sb hr q fun d M1 G1 H1 v e1 r1 rv k1 => ⟨G1, s, M1, r1.m, r1.sl, SK.sb r1 k1 fun x M2 G2 H2 u e2 r2 rx k2 => ⟨G2, s, M2, r2.m, r2.sl, SK.sb r2 k2 fun y M3 G3 H3 w e3 r3 ry k3 => ?_⟩⟩⟩
  have rv := ((not_own rv).mono e2).mono e3
  have rx := (not_own rx).mono e3
  have ry := not_own ry
  cases x with
  | ref r =>
    cases y with
    | int k =>
      dsimp only at k3
      split at k3
      · rename_i l hl
        obtain ⟨j, ej, k3⟩ := k3.optb
        cases ry
        cases rx with
        | ref hr' =>
          obtain ⟨xs, hx, rl⟩ := r3.m.ob _ _ _ hr' hl
          have hf := r3.m.nfz _ (List.mem_of_getElem? hr')
          obtain ⟨s4, le⟩ := r3.updR (o' := .lst (l.set j d)) (v := .lst (xs.set j v)) hr' hx trivial (by simp) (by simp) (by simp) ⟨_, upd_same, (rl.set j rv).le (Le.seto hx hf)⟩
          exact ⟨_, xs, k, j, rfl, rfl, hx, by rw [← rl.length]; exact ej, k3 G3 _ σ le s4⟩
      · exact k3.elim
    | _ => exact k3.elim
  | _ => cases y <;> exact k3.elim
theorem ss_sto {j : Nat} {y : Str} {mi me : ME} {o i e : Expr} {p sp : Pos} (pr : PrX T P R adr n X) (xo : XOs S n X W) (hs : exSl i = false) (ho : exName o = some y) (hj : S.N[j]? = some y) (hv : isVis S y = true) (hn : okName y = true) (hi : chkE P S mi i = true) (he : chkE P S me e = true) :
    PS X (.Assign [.Subscript o i p] e sp) (tS T X.K W (fun s M => ex R (.sto j mi me) s M)) := by
  obtain ⟨po, rfl⟩ := exName_ok ho
  obtain ⟨h1, h2⟩ := okName_ok hn
  refine (ps_asg (cE me false pr xo.ok he) (pg_sub (pe_var (i := j) (by rw [xo.ok.N]; exact hj) (xo.ok.vis hv) h1 h2) (cE mi false pr xo.ok hi) set_list (assign_sub hs)) swaps_sub rfl rfl).weak fun D' σ H ⟨G0, H0, G, s, M, hr, q⟩ => ?_
  simp only [ex] at q
  refine ⟨G, s, M, hr.m, hr.sl, SK.sb hr q fun d M1 G1 H1 v e1 r1 rv k1 => ?_⟩
  split at k1
  · rename_i l hl
    obtain ⟨a, xs, g1, g2, g3, g4, g5⟩ := r1.sl.own j l hl
    refine ⟨.ref a, g1, G1, s, M1, r1.m, r1.sl, SK.sb r1 k1 fun x M2 G2 H2 u e2 r2 rx k2 => ?_⟩
    have rx := not_own rx
    cases x with
    | int k =>
      cases rx
      obtain ⟨jj, ej, k2⟩ := k2.optb
      obtain ⟨s3, le⟩ := r2.updO hl g1 ((g3.mono e2).set jj ((not_own rv).mono e2))
      exact ⟨a, xs, k, jj, rfl, rfl, e2.keep a _ g2 g4, by rw [← g3.length]; exact ej, k2 G2 _ σ le s3⟩
    | _ => exact k2.elim
  · exact k1.elim
/-! ### op= -/
theorem aop_int {o : Op2} {op : Operator} {x y z : D} {C : Int → Int → Prop} {f : Int → Int → Int} (h : ∀ i j z, op2 o (.int i) (.int j) = some z → C i j ∧ z = .int (f i j)) (hs : ∀ a c z, op2 o (.str a) (.str c) = some z → False) (e : aop o x y = some z) : ∃ i j, x = .int i ∧ y = .int j ∧ C i j ∧ z = .int (f i j) := by
  cases x <;> cases y <;> first | (cases e; done) | skip
  · exact ⟨_, _, rfl, rfl, h _ _ _ e⟩
  · exact (hs _ _ _ e).elim
theorem sv_aop {o : Op2} {C : Int → Int → Prop} {f : Int → Int → Int} (h : ∀ i j z, op2 o (.int i) (.int j) = some z → C i j ∧ z = .int (f i j)) (hs : ∀ a c z, op2 o (.str a) (.str c) = some z → False) : Serves2 T K (rI C fun i j => .int (f i j)) (aop o) := by
  intro G H M x y z v w Q hM hx hy e k
  obtain ⟨i, j, rfl, rfl, c, rfl⟩ := aop_int (op := .Add) h hs e
  rw [hx.int, hy.int]
  exact ⟨i, j, rfl, rfl, c, k.here hM (.int _)⟩
theorem sv_aop0 {o : Op2} {f : Int → Int → Int} (h : ∀ i j z, op2 o (.int i) (.int j) = some z → z = .int (f i j)) (hs : ∀ a c z, op2 o (.str a) (.str c) = some z → False) : Serves2 T K (rI0 fun i j => .int (f i j)) (aop o) := by
  intro G H M x y z v w Q hM hx hy e k
  obtain ⟨i, j, rfl, rfl, c, rfl⟩ := aop_int (op := .Add) (C := fun _ _ => True) (fun i j z e => ⟨trivial, h i j z e⟩) hs e
  rw [hx.int, hy.int]
  exact ⟨i, j, rfl, rfl, k.here hM (.int _)⟩
theorem iop_mulA : OpR X (inplaceOp .Mult) (rI (fun i j => mulOk i j = true) fun i j => .int (i * j)) := opI fun _ _ _ _ _ _ _ hc q => imul_int q (mulOk_ok hc)
theorem iop_shlA : OpR X (inplaceOp .LShift) (rI (fun i j => 0 ≤ j ∧ i.natAbs.log2 + j.toNat < 1000000) fun i j => .int (i * 2 ^ j.toNat)) := opI fun i j _ _ _ _ _ hc q => by
  have h1 := intBits_le i
  have h2 := hc.1
  have h3 := hc.2
  exact ilshift_int hc.1 (by omega) q
theorem sv_aadd : Serves2 T K (fun x y H Q => rI0 (fun i j => .int (i + j)) x y H Q ∨ ∃ i j, x = .str i ∧ y = .str j ∧ i.length + j.length ≤ sizeLine ∧ Q (.str (i ++ j)) H) (aop .add) := by
  intro G H M x y z v w Q hM hx hy e k
  cases x <;> cases y <;> first | (cases e; done) | skip
  · simp [aop, op2] at e
    subst e
    rw [hx.int, hy.int]
    exact .inl ⟨_, _, rfl, rfl, k.here hM (.int _)⟩
  · simp [aop, op2] at e
    obtain ⟨c, e⟩ := e
    subst e
    rw [hx.str, hy.str]
    exact .inr ⟨_, _, rfl, rfl, c, k.here hM (.str _)⟩
theorem aop_ok : ∀ (o : Op2) (op : Operator), o.abin = some op → ∃ r, OpR X (inplaceOp op) r ∧ Serves2 T X.K r (aop o) := by
  intro o op e
  cases o <;> simp [Op2.abin] at e <;> subst e
  · exact ⟨_, OpR.or iop_add iop_add_str, sv_aadd⟩
  · exact ⟨_, iop_sub, sv_aop0 (fun i j z e => by simp [op2] at e; exact e.symm) fun a c z e => by simp [op2] at e⟩
  · exact ⟨_, iop_mulA, sv_aop (fun i j z e => by simp [op2] at e; exact ⟨e.1, e.2.symm⟩) fun a c z e => by simp [op2] at e⟩
  · exact ⟨_, iop_fdivW, sv_aop (fun i j z e => by simp [op2] at e; exact ⟨e.1, e.2.symm⟩) fun a c z e => by simp [op2] at e⟩
  · exact ⟨_, iop_mod, sv_aop (fun i j z e => by simp [op2] at e; exact ⟨e.1, e.2.symm⟩) fun a c z e => by simp [op2] at e⟩
  · exact ⟨_, iop_and, sv_aop0 (fun i j z e => by simp [op2] at e; exact e.symm) fun a c z e => by simp [op2] at e⟩
  · exact ⟨_, iop_or, sv_aop0 (fun i j z e => by simp [op2] at e; exact e.symm) fun a c z e => by simp [op2] at e⟩
  · exact ⟨_, iop_xor, sv_aop0 (fun i j z e => by simp [op2] at e; exact e.symm) fun a c z e => by simp [op2] at e⟩
  · exact ⟨_, iop_shlA, sv_aop (fun i j z e => by simp [op2] at e; exact ⟨e.1, e.2.symm⟩) fun a c z e => by simp [op2] at e⟩
  · exact ⟨_, iop_shr, sv_aop (fun i j z e => by simp [op2] at e; exact ⟨e.1, e.2.symm⟩) fun a c z e => by simp [op2] at e⟩
theorem ss_aug {o : Op2} {op : Operator} {i : Nat} {y : Str} {m : ME} {e : Expr} {p sp : Pos} (pr : PrX T P R adr n X) (xo : XOs S n X W) (ho : o.abin = some op) (hi : S.N[i]? = some y) (hl : isLoc S y = true) (h : chkE P S m e = true) : PS X (.AugAssign (.Name y p) op e sp) (tS T X.K W (fun s M => ex R (.aug o i m) s M)) := by
  obtain ⟨h1, h2⟩ := xo.ok.loc hl
  obtain ⟨r, hr', sv⟩ := aop_ok (X := X) (T := T) o op ho
  refine (ps_aug (by rw [xo.ok.N]; exact xo.ok.nd) (by rw [xo.ok.N]; exact hi) h1 (cE m false pr xo.ok h) hr' h2).weak fun D' σ H ⟨G0, H0, G, s, M, hr, q⟩ => ?_
  simp only [ex] at q
  split at q
  · rename_i x hx
    obtain ⟨v, g1, g2⟩ := hr.sl.val i x hx
    refine ⟨v, g1, G, s, M, hr.m, hr.sl, SK.sb hr q fun d M1 G1 H1 w e1 r1 rw' k => ?_⟩
    obtain ⟨z, ez, k⟩ := k.optb
    exact sv G1 H1 M1 x d z v w _ r1.m (.of (g2.mono e1)) (.of (not_own rw')) ez fun G' H' b' e' m' r' => k G' H' _ e'.le ((r1.mono e' m').setV r')
  · exact q.elim
end
end MP

set_option Elab.async false
set_option linter.all false
set_option maxRecDepth 100000
set_option maxHeartbeats 4000000
set_option autoImplicit false
/-! MP, part t: blocks, if, loops; a checked block does what its mini tree says -/
namespace MP
open PySem PySem.Spec PyProof.Rows L2

section
variable {T : Tb} {P : Pg} {R : MP.Env} {adr : Nat → Addr} {n : Nat} {X : Cx} {S : SC} {W : WX} {b : Bool} {K : Frag}
theorem SK.seq {G0 G : Gh} {H0 H : Hp} {r : Res Flow} {k : Sl → MH → Res Flow} {D' : Ends} {N : L2.St → Hp → Prop} (h : SK T K W G0 H0 G H (r.bind fun f M => match f with
      | .nx s => k s M
      | f => .ok f M) D') (hn : ∀ s' M' G' H' σ', Le G H G' H' → SRel T K G0 H0 G' H' σ' s' M' → SK T K W G0 H0 G' H' (k s' M') D' → N σ' H') : SK T K W G0 H0 G H r { D' with nx := N } := by
  cases r with
  | ok f M =>
    cases f with
    | nx s' => exact fun G' H' σ' le r => hn s' M G' H' σ' le r (SK.le h le)
    | bk s' => exact h
    | ct s' => exact h
    | rt d => exact h
    | xc c ds s' => exact h
  | exc c fs M => exact h.elim
  | bad => exact h.elim
theorem ss_cons {st : Stmt} {sts : List Stmt} {m : MS} {r : MSs} (h1 : PS X st (tS T X.K W (fun s M => ex R m s M))) (h2 : PSs X sts (tS T X.K W (fun s M => exs R r s M))) : PSs X (st :: sts) (tS T X.K W (fun s M => exs R (.cons m r) s M)) := by
  refine (pss_cons h1 h2).weak fun D' σ H ⟨G0, H0, G, s, M, hr, q⟩ => ?_
  simp only [exs] at q
  exact ⟨G0, H0, G, s, M, hr, SK.seq q fun s' M' G' H' σ' le r k => ⟨G0, H0, G', s', M', r, k⟩⟩
theorem ss_frz {sts : List Stmt} {i : Nat} {r : MSs} (h2 : PSs X sts (tS T X.K W (fun s M => exs R r s M))) : PSs X sts (tS T X.K W (fun s M => exs R (.cons (.frz i) r) s M)) := by
  refine h2.weak fun D' σ H ⟨G0, H0, G, s, M, hr, q⟩ => ?_
  simp only [exs, ex] at q
  split at q
  · rename_i l hl
    obtain ⟨a, g1, g2, g3, _⟩ := hr.frz hl
    exact ⟨G0, H0, _, _, M, g2, SK.le q g3⟩
  · exact q.elim
theorem ss_if {c : Expr} {a d : List Stmt} {t : MT} {ma md : MSs} {pos : Pos} (hc : PT X c (tT T X.K W fun s M => evT R s t M)) (ha : PSs X a (tS T X.K W (fun s M => exs R ma s M))) (hd : PSs X d (tS T X.K W (fun s M => exs R md s M))) :
    PS X (.If c a d pos) (tS T X.K W (fun s M => ex R (.iff t ma md) s M)) := by
  refine (ps_if hc ha hd).weak fun D' σ H ⟨G0, H0, G, s, M, hr, q⟩ => ?_
  simp only [ex] at q
  refine ⟨G, s, M, hr.m, hr.sl, SK.sb hr q fun k M1 G1 H1 k' e1 r1 rk kk => ?_⟩
  subst rk
  cases k with
  | true => exact ⟨G0, H0, G1, s, M1, r1, kk⟩
  | false => exact ⟨G0, H0, G1, s, M1, r1, kk⟩
/-- a loop's turn -/
theorem SK.loop {G0 G : Gh} {H0 H : Hp} {r : Res Flow} {k : Sl → MH → Res Flow} {D' : Ends} {N : L2.St → Hp → Prop} (h : SK T K W G0 H0 G H (r.bind fun f M => match f with
      | .nx s => k s M
      | .ct s => k s M
      | .bk s => .ok (.nx s) M
      | f => .ok f M) D') (hn : ∀ s' M' G' H' σ', Le G H G' H' → SRel T K G0 H0 G' H' σ' s' M' → SK T K W G0 H0 G' H' (k s' M') D' → N σ' H') : SK T K W G0 H0 G H r { D' with nx := N, ct := N, bk := D'.nx } := by
  cases r with
  | ok f M =>
    cases f with
    | nx s' => exact fun G' H' σ' le r => hn s' M G' H' σ' le r (SK.le h le)
    | bk s' => exact h
    | ct s' => exact fun G' H' σ' le r => hn s' M G' H' σ' le r (SK.le h le)
    | rt d => exact h
    | xc c ds s' => exact h
  | exc c fs M => exact h.elim
  | bad => exact h.elim
theorem ss_while {c : Expr} {body : List Stmt} {t : MT} {mb : MSs} {pos : Pos} (xo : XOs S n X W) (hc : PT X c (tT T X.K W fun s M => evT R s t M)) (hb : PSs X body (tS T X.K W (fun s M => exs R mb s M))) :
    PS X (.While c body [] pos) (tS T X.K W (fun s M => ex R (.while t mb) s M)) := by
  refine (ps_while xo.po hc hb).weak fun D' σ H ⟨G0, H0, G, s, M, hr, q⟩ => ?_
  simp only [ex] at q
  let V : Nat → L2.St → Hp → Prop := fun m σ H => ∃ G s M, SRel T X.K G0 H0 G H σ s M ∧ SK T X.K W G0 H0 G H (loopW (fun s M => evT R s t M) (fun s M => exs R mb s M) m s M) D'
  refine ⟨V, ⟨R.W, G, s, M, hr, q⟩, ?_⟩
  rintro m σ H ⟨G, s, M, hr, q⟩
  cases m with
  | zero => exact q.elim
  | succ m =>
    simp only [loopW] at q
    refine ⟨G, s, M, hr.m, hr.sl, SK.sb hr q fun k M1 G1 H1 k' e1 r1 rk kk => ?_⟩
    subst rk
    cases k with
    | true =>
      rw [if_pos rfl] at kk ⊢
      exact ⟨V m, fun σ' H' v => ⟨m, Nat.lt_succ_self _, v⟩, G0, H0, G1, s, M1, r1, SK.loop kk fun s' M' G' H' σ' le r k => ⟨G', s', M', r, k⟩⟩
    | false =>
      rw [if_neg Bool.false_ne_true] at kk ⊢
      exact kk G1 H1 σ Le.refl r1
theorem sameA_src2 {s : Sl} {M : MH} {ps : List (D × List D)} {G0 G : Gh} {H0 H : Hp} (h : sameA s M ps = true) (hn : noOwn ps = true) : Srcs ps G0 H0 G H M := by
  unfold sameA at h
  unfold noOwn at hn
  rw [List.all_eq_true] at h hn
  intro q hq
  have h1 := h q hq
  have h2 := hn q hq
  obtain ⟨x, l⟩ := q
  cases x with
  | ref r =>
    have this : decide (rs s M (.ref r) = .lst l) = true := h1
    have this : (match M[r]? with
      | some (.lst l) => D.lst l
      | _ => .ref r) = .lst l := of_decide_eq_true this
    show M[r]? = some (.lst l)
    split at this
    · rename_i l' q'
      cases this
      exact q'
    · cases this
  | own i => simp [D.isOwn] at h2
  | _ => trivial
theorem ss_for {tg it : Expr} {body : List Stmt} {g : MG} {mi : MI} {mb : MSs} {pos : Pos} (xo : XOs S n X W) (hg : chkG S g tg = true) (hset : exSet it = false) (hi : PI X tg it (tI T X.K W fun s M => evI R s mi M)) (hb : PSs X body (tS T X.K W (fun s M => exs R mb s M))) :
    PS X (.For tg it body [] pos) (tS T X.K W (fun s M => ex R (.for g mi mb) s M)) := by
  have hfs : ∀ x, foldedSetIterable it X.env x = pure x := fun x => by
    cases it <;> first | rfl | (simp [exSet] at hset)
  refine (ps_for xo.po xo.ok.calm hi (sg (T := T) xo.ok g tg hg) hb hfs).weak fun D' σ H ⟨G0, H0, G, s, M, hr, q⟩ => ?_
  simp only [ex] at q
  refine ⟨G, s, M, hr.m, hr.sl, SK.sb hr q fun p M1 G1 H1 J e1 r1 jw k => ?_⟩
  have jw : JW T X.K J p.1 p.2 G1 H1 := jw
  by_cases hno : noOwn p.1 = true
  · rw [if_pos hno] at k
    revert k
    generalize hsame : (fun (s : Sl) (M : MH) => sameA s M p.1) = same
    generalize hturn : (fun (x : D) (s : Sl) (M : MH) => (Res.opt (bindG g x s) M).bind fun s M => exs R mb s M) = turn
    intro k
    let V : Nat → L2.St → Hp → Prop := fun i σ H => ∃ G s M, i ≤ p.2.length ∧ Le G1 H1 G H ∧ SRel T X.K G0 H0 G H σ s M ∧ SK T X.K W G0 H0 G H (loopF same turn (p.2.drop i) s M) D'
    refine ⟨fun i m σ H => m = p.2.length - i ∧ V i σ H, ⟨_, rfl, G1, s, M1, Nat.zero_le _, Le.refl, r1, by rw [List.drop_zero]; exact k⟩, ?_⟩
    rintro i m σ H ⟨rfl, G, s, M, hi', le, hr, q⟩
    by_cases hlt : i < p.2.length
    · rw [List.drop_eq_getElem_cons hlt] at q
      simp only [loopF] at q
      by_cases hs : same s M = true
      · rw [if_pos hs] at q
        have hs' : sameA s M p.1 = true := by rw [← hsame] at hs; exact hs
        have srcs := fun {Ga Gb : Gh} {Ha Hb : Hp} => sameA_src2 (G0 := Ga) (G := Gb) (H0 := Ha) (H := Hb) hs' hno
        refine .inr ⟨jw.go i G H M le srcs hr.m hlt, V (i + 1), fun σ' H' v => ⟨_, by omega, rfl, v⟩, fun x H' y => ?_⟩
        obtain ⟨G', e', m', r'⟩ := jw.yld i p.2[i] G H M x H' le srcs hr.m (List.getElem?_eq_getElem hlt) y
        have hr' := hr.mono e' m'
        have q := SK.le q e'.le
        subst hturn
        dsimp only at q
        rw [Res.bind_assoc] at q
        obtain ⟨s1, es, q⟩ := q.optb
        refine ⟨G', s, _, s1, hr'.sl, .inl r', es, fun σ' hS' _ hk' => ⟨G0, H0, G', s1, M, hr'.bind es hS' hk', SK.loop q fun s' M' G2 H2 σ2 le2 r2 k2 => ⟨G2, s', M', hlt, (le.trans e'.le).trans le2, r2, k2⟩⟩⟩
      · rw [if_neg hs] at q; exact q.elim
    · have e : i = p.2.length := by omega
      subst e
      rw [List.drop_length] at q
      simp only [loopF] at q
      by_cases hs : same s M = true
      · rw [if_pos hs] at q
        have hs' : sameA s M p.1 = true := by rw [← hsame] at hs; exact hs
        exact .inl ⟨jw.stop G H M le (sameA_src2 hs' hno) hr.m, q G H σ Le.refl hr⟩
      · rw [if_neg hs] at q; exact q.elim
  · rw [if_neg hno] at k; exact k.elim
end

/-! ### the checker -/
def stSet : Stmt → Option (Str × Pos × Expr × Pos) | .Assign [.Name y py] e sp => some (y, py, e, sp) | _ => none
def stTup : Stmt → Option (List Expr × Expr) | .Assign [.Tuple ts _ _] e _ => some (ts, e) | _ => none
def stSub : Stmt → Option (Expr × Expr × Expr) | .Assign [.Subscript o i _] e _ => some (o, i, e) | _ => none
def stAug : Stmt → Option (Str × Operator × Expr) | .AugAssign (.Name y _) op e _ => some (y, op, e) | _ => none
def stEx : Stmt → Option Expr | .Expr e _ => some e | _ => none
def stRet : Stmt → Option (Option Expr) | .Return e _ => some e | _ => none
def stIf : Stmt → Option (Expr × List Stmt × List Stmt) | .If c a b _ => some (c, a, b) | _ => none
def stFor : Stmt → Option (Expr × Expr × List Stmt) | .For tg it b [] _ => some (tg, it, b) | _ => none
def stWhile : Stmt → Option (Expr × List Stmt) | .While c b [] _ => some (c, b) | _ => none
theorem stSet_ok {st : Stmt} {y : Str} {py : Pos} {e : Expr} {sp : Pos} (h : stSet st = some (y, py, e, sp)) : st = .Assign [.Name y py] e sp := by
  unfold stSet at h; split at h
  · cases h; rfl
  · cases h
theorem stTup_ok {st : Stmt} {ts : List Expr} {e : Expr} (h : stTup st = some (ts, e)) : ∃ k p sp, st = .Assign [.Tuple ts k p] e sp := by
  unfold stTup at h; split at h
  · cases h; exact ⟨_, _, _, rfl⟩
  · cases h
theorem stSub_ok {st : Stmt} {o i e : Expr} (h : stSub st = some (o, i, e)) : ∃ p sp, st = .Assign [.Subscript o i p] e sp := by
  unfold stSub at h; split at h
  · cases h; exact ⟨_, _, rfl⟩
  · cases h
theorem stAug_ok {st : Stmt} {y : Str} {op : Operator} {e : Expr} (h : stAug st = some (y, op, e)) : ∃ p sp, st = .AugAssign (.Name y p) op e sp := by
  unfold stAug at h; split at h
  · cases h; exact ⟨_, _, rfl⟩
  · cases h
theorem stEx_ok {st : Stmt} {e : Expr} (h : stEx st = some e) : ∃ sp, st = .Expr e sp := by
  unfold stEx at h; split at h
  · cases h; exact ⟨_, rfl⟩
  · cases h
theorem stRet_ok {st : Stmt} {e : Option Expr} (h : stRet st = some e) : ∃ sp, st = .Return e sp := by
  unfold stRet at h; split at h
  · cases h; exact ⟨_, rfl⟩
  · cases h
theorem stIf_ok {st : Stmt} {c : Expr} {a b : List Stmt} (h : stIf st = some (c, a, b)) : ∃ sp, st = .If c a b sp := by
  unfold stIf at h; split at h
  · cases h; exact ⟨_, rfl⟩
  · cases h
theorem stFor_ok {st : Stmt} {tg it : Expr} {b : List Stmt} (h : stFor st = some (tg, it, b)) : ∃ sp, st = .For tg it b [] sp := by
  unfold stFor at h; split at h
  · cases h; exact ⟨_, rfl⟩
  · cases h
theorem stWhile_ok {st : Stmt} {c : Expr} {b : List Stmt} (h : stWhile st = some (c, b)) : ∃ sp, st = .While c b [] sp := by
  unfold stWhile at h; split at h
  · cases h; exact ⟨_, rfl⟩
  · cases h
def stPass : Stmt → Bool | .Pass _ => true | _ => false
def stBrk : Stmt → Bool | .Break _ => true | _ => false
def stCont : Stmt → Bool | .Continue _ => true | _ => false
def MS.isFrz : MS → Bool
  | .frz _ => true
  | _ => false
def MG.tups : MG → Option MGs
  | .tup gs => some gs
  | _ => none
mutual
def chkS (P : Pg) (S : SC) : MS → Stmt → Bool
  | .set i m, st => match stSet st with
    | some (y, py, e, sp) => S.N[i]? == some y && (chkE P S m e && ((lineOk S y e sp.line py.line && m.isL) || (!exIsComp e && isLoc S y)))
    | none => false
  | .setO i m, st => match stSet st with
    | some (y, py, e, sp) => S.N[i]? == some y && (chkE P S m e && (m.isL && (lineOk S y e sp.line py.line || (!exIsComp e && isLoc S y))))
    | none => false
  | .app i m, st => match stEx st with
    | some e => (match exMeth e with
      | some (o, nm, [a]) => (nm == "append" && !exStar a) && (chkE P S m a && (match exName o with
        | some y => S.N[i]? == some y && (isVis S y && okName y)
        | none => false))
      | _ => false)
    | none => false
  | .sto j a m, st => match stSub st with
    | some (o, i, e) => (!exSl i && (match exName o with
        | some y => S.N[j]? == some y && (isVis S y && okName y)
        | none => false)) && (chkE P S a i && chkE P S m e)
    | none => false
  | .sat mo mi m, st => match stSub st with
    | some (o, i, e) => !exSl i && (chkE P S mo o && (chkE P S mi i && chkE P S m e))
    | none => false
  | .unp g m, st => match stTup st with
    | some (ts, e) => (match g.tups with
      | some gs => chkGs S gs ts && (!exTupT e && chkE P S m e)
      | none => false)
    | none => false
  | .aug o i m, st => match stAug st with
    | some (y, op, e) => (o.abin == some op && (S.N[i]? == some y && isLoc S y)) && chkE P S m e
    | none => false
  | .ex m, st => match stEx st with
    | some e => !exIsComp e && chkE P S m e
    | none => false
  | .iff t a b, st => match stIf st with
    | some (c, a', b') => chkT P S t c && (chkSs P S a a' && chkSs P S b b')
    | none => false
  | .for g it b, st => match stFor st with
    | some (tg, it', b') => (chkG S g tg && !exSet it') && (chkI P S it tg it' && chkSs P S b b')
    | none => false
  | .while t b, st => match stWhile st with
    | some (c, b') => chkT P S t c && chkSs P S b b'
    | none => false
  | .ret m, st => match stRet st with
    | some (some e) => chkE P S m e
    | _ => false
  | .retO i, st => match stRet st with
    | some (some e) => (match exName e with
      | some y => S.N[i]? == some y && (isVis S y && okName y)
      | none => false)
    | _ => false
  | .retN, st => match stRet st with
    | some none => true
    | _ => false
  | .pass, st => stPass st
  | .brk, st => stBrk st
  | .cont, st => stCont st
  | _, _ => false
def chkSs (P : Pg) (S : SC) : MSs → List Stmt → Bool
  | .nil, sts => sts.isEmpty
  | .cons s r, sts => if s.isFrz then chkSs P S r sts else match sts with
    | st :: sts => chkS P S s st && chkSs P S r sts
    | [] => false
end
section
variable {T : Tb} {P : Pg} {R : MP.Env} {adr : Nat → Addr} {n : Nat}
mutual
theorem cS : ∀ (m : MS) {X : Cx} {S : SC} {W : WX} {st : Stmt}, PrX T P R adr n X → XOs S n X W → chkS P S m st = true → PS X st (tS T X.K W (fun s M => ex R m s M))
  | .set i m, X, S, W, st, pr, xo, h => by
    simp only [chkS] at h
    split at h
    · rename_i y py e sp hx
      simp only [Bool.and_eq_true, Bool.or_eq_true, beq_iff_eq, Bool.not_eq_true'] at h
      rw [stSet_ok hx]
      exact ss_set pr xo h.2.1 h.1 h.2.2
    · cases h
  | .setO i m, X, S, W, st, pr, xo, h => by
    simp only [chkS] at h
    split at h
    · rename_i y py e sp hx
      simp only [Bool.and_eq_true, Bool.or_eq_true, beq_iff_eq, Bool.not_eq_true'] at h
      rw [stSet_ok hx]
      exact ss_setO pr xo h.2.2.1 h.2.1 h.1 h.2.2.2
    · cases h
  | .app i m, X, S, W, st, pr, xo, h => by
    simp only [chkS] at h
    split at h
    · rename_i e hx
      split at h
      · rename_i o nm a hm
        simp only [Bool.and_eq_true, beq_iff_eq, Bool.not_eq_true'] at h
        obtain ⟨⟨rfl, h2⟩, h3, h4⟩ := h
        split at h4
        · rename_i y hy
          simp only [Bool.and_eq_true, beq_iff_eq] at h4
          obtain ⟨sp, rfl⟩ := stEx_ok hx
          obtain ⟨p, q, rfl, hl⟩ := exMeth_ok hm
          exact ss_app pr xo hy h4.1 h4.2.1 h4.2.2 h2 hl h3
        · cases h4
      · cases h
    · cases h
  | .sto j a m, X, S, W, st, pr, xo, h => by
    simp only [chkS] at h
    split at h
    · rename_i o i e hx
      simp only [Bool.and_eq_true, Bool.not_eq_true'] at h
      obtain ⟨⟨h1, h2⟩, h3, h4⟩ := h
      split at h2
      · rename_i y hy
        simp only [Bool.and_eq_true, beq_iff_eq] at h2
        obtain ⟨p, sp, rfl⟩ := stSub_ok hx
        exact ss_sto pr xo h1 hy h2.1 h2.2.1 h2.2.2 h3 h4
      · cases h2
    · cases h
  | .sat mo mi m, X, S, W, st, pr, xo, h => by
    simp only [chkS] at h
    split at h
    · rename_i o i e hx
      simp only [Bool.and_eq_true, Bool.not_eq_true'] at h
      obtain ⟨p, sp, rfl⟩ := stSub_ok hx
      exact ss_sat pr xo h.1 h.2.1 h.2.2.1 h.2.2.2
    · cases h
  | .unp g m, X, S, W, st, pr, xo, h => by
    simp only [chkS] at h
    split at h
    · rename_i ts e hx
      split at h
      · rename_i gs hg
        simp only [Bool.and_eq_true, Bool.not_eq_true'] at h
        obtain ⟨k, p, sp, rfl⟩ := stTup_ok hx
        cases g with
        | nm i => cases hg
        | tup gs' =>
          cases hg
          exact ss_unp pr xo h.1 h.2.1 h.2.2
      · cases h
    · cases h
  | .aug o i m, X, S, W, st, pr, xo, h => by
    simp only [chkS] at h
    split at h
    · rename_i y op e hx
      simp only [Bool.and_eq_true, beq_iff_eq] at h
      obtain ⟨p, sp, rfl⟩ := stAug_ok hx
      exact ss_aug pr xo h.1.1 h.1.2.1 h.1.2.2 h.2
    · cases h
  | .ex m, X, S, W, st, pr, xo, h => by
    simp only [chkS] at h
    split at h
    · rename_i e hx
      simp only [Bool.and_eq_true, Bool.not_eq_true'] at h
      obtain ⟨sp, rfl⟩ := stEx_ok hx
      exact ss_ex pr xo h.2 h.1
    · cases h
  | .iff t a b, X, S, W, st, pr, xo, h => by
    simp only [chkS] at h
    split at h
    · rename_i c a' b' hx
      simp only [Bool.and_eq_true] at h
      obtain ⟨sp, rfl⟩ := stIf_ok hx
      exact ss_if (cT t pr xo.ok h.1) (cSs a pr xo h.2.1) (cSs b pr xo h.2.2)
    · cases h
  | .for g it b, X, S, W, st, pr, xo, h => by
    simp only [chkS] at h
    split at h
    · rename_i tg it' b' hx
      simp only [Bool.and_eq_true, Bool.not_eq_true'] at h
      obtain ⟨sp, rfl⟩ := stFor_ok hx
      exact ss_for xo h.1.1 h.1.2 (cI it tg pr xo.ok h.2.1) (cSs b pr xo h.2.2)
    · cases h
  | .while t b, X, S, W, st, pr, xo, h => by
    simp only [chkS] at h
    split at h
    · rename_i c b' hx
      simp only [Bool.and_eq_true] at h
      obtain ⟨sp, rfl⟩ := stWhile_ok hx
      exact ss_while xo (cT t pr xo.ok h.1) (cSs b pr xo h.2)
    · cases h
  | .ret m, X, S, W, st, pr, xo, h => by
    simp only [chkS] at h
    split at h
    · rename_i e hx
      obtain ⟨sp, rfl⟩ := stRet_ok hx
      exact ss_ret pr xo h
    · cases h
  | .retO i, X, S, W, st, pr, xo, h => by
    simp only [chkS] at h
    split at h
    · rename_i e hx
      split at h
      · rename_i y hy
        simp only [Bool.and_eq_true, beq_iff_eq] at h
        obtain ⟨sp, rfl⟩ := stRet_ok hx
        exact ss_retO xo hy h.1 h.2.1 h.2.2
      · cases h
    · cases h
  | .retN, X, S, W, st, pr, xo, h => by
    simp only [chkS] at h
    split at h
    · rename_i hx
      obtain ⟨sp, rfl⟩ := stRet_ok hx
      exact ss_retN
    · cases h
  | .pass, X, S, W, st, pr, xo, h => by
    simp only [chkS] at h
    unfold stPass at h
    split at h
    · exact ss_pass
    · cases h
  | .brk, X, S, W, st, pr, xo, h => by
    simp only [chkS] at h
    unfold stBrk at h
    split at h
    · exact ss_brk
    · cases h
  | .cont, X, S, W, st, pr, xo, h => by
    simp only [chkS] at h
    unfold stCont at h
    split at h
    · exact ss_cont
    · cases h
  | .ext _ _, _, _, _, _, _, _, h => by simp [chkS] at h
  | .sfl _ _ _, _, _, _, _, _, _, h => by simp [chkS] at h
  | .afl _ _ _ _, _, _, _, _, _, _, h => by simp [chkS] at h
  | .raise _ _, _, _, _, _, _, _, h => by simp [chkS] at h
  | .try _ _, _, _, _, _, _, _, h => by simp [chkS] at h
  | .frz _, _, _, _, _, _, _, h => by simp [chkS] at h
theorem cSs : ∀ (m : MSs) {X : Cx} {S : SC} {W : WX} {sts : List Stmt}, PrX T P R adr n X → XOs S n X W → chkSs P S m sts = true → PSs X sts (tS T X.K W (fun s M => exs R m s M))
  | .nil, X, S, W, sts, pr, xo, h => by
    simp only [chkSs] at h
    cases sts with
    | nil =>
      refine pss_nil.weak fun D' σ H ⟨G0, H0, G, s, M, hr, q⟩ => ?_
      simp only [exs] at q
      exact q G H σ Le.refl hr
    | cons st sts => cases h
  | .cons m r, X, S, W, sts, pr, xo, h => by
    simp only [chkSs] at h
    by_cases hf : m.isFrz = true
    · rw [if_pos hf] at h
      cases m with
      | frz i => exact ss_frz (cSs r pr xo h)
      | _ => simp [MS.isFrz] at hf
    · rw [if_neg hf] at h
      cases sts with
      | nil => cases h
      | cons st sts =>
        simp only [Bool.and_eq_true] at h
        exact ss_cons (cS m pr xo h.1) (cSs r pr xo h.2)
end
end
end MP

set_option Elab.async false
set_option linter.all false
set_option maxRecDepth 100000
set_option maxHeartbeats 2000000
set_option autoImplicit false
/-! MP, part u: functions, level by level -/
namespace MP
open PySem PySem.Spec PyProof.Rows L2

/-! ### binding of plain parameters -/
theorem zip_lookup : ∀ {ns : List Str} {us : List Value}, ns.Nodup → us.length = ns.length → (ns.filterMap fun n => ((ns.zip us).lookup n).map (n, ·)) = ns.zip us := by
  suffices h : ∀ (pre : List (Str × Value)) (ns : List Str) (us : List Value), ns.Nodup → us.length = ns.length → (∀ p ∈ pre, p.1 ∉ ns) → (ns.filterMap fun n => ((pre ++ ns.zip us).lookup n).map (n, ·)) = ns.zip us from
    fun {ns us} h1 h2 => by simpa using h [] ns us h1 h2 (by simp)
  intro pre ns
  induction ns generalizing pre with
  | nil => intros; rfl
  | cons n ns ih =>
    intro us hn hl hp
    cases us with
    | nil => simp at hl
    | cons u us =>
      have hlk : (pre ++ (n :: ns).zip (u :: us)).lookup n = some u := by
        clear ih hl hn
        induction pre with
        | nil => simp
        | cons p pre ih2 =>
          have : (n == p.1) = false := by
            have := hp p List.mem_cons_self
            simp at this
            simpa using fun e => this.1 e.symm
          obtain ⟨a, b⟩ := p
          simp only [List.cons_append, List.lookup_cons]
          rw [this]
          exact ih2 fun q hq => hp q (List.mem_cons_of_mem _ hq)
      rw [List.filterMap_cons, hlk]
      show (n, u) :: _ = (n, u) :: _
      congr 1
      have := ih (pre ++ [(n, u)]) us (List.nodup_cons.mp hn).2 (by simpa using hl) (fun p hp' => by
        rcases List.mem_append.mp hp' with q | q
        · exact fun z => hp p q (List.mem_cons_of_mem _ z)
        · rw [List.mem_singleton.mp q]; exact (List.nodup_cons.mp hn).1)
      rw [List.append_assoc] at this
      exact this
theorem zip_has {ns : List Str} {us : List Value} (hl : us.length = ns.length) : ∀ n ∈ ns, ((ns.zip us).lookup n).isNone = false := by
  induction ns generalizing us with
  | nil => intro n h; simp at h
  | cons m ns ih =>
    intro n h
    cases us with
    | nil => simp at hl
    | cons u us =>
      simp only [List.zip_cons_cons, List.lookup_cons]
      cases q : n == m with
      | true => rfl
      | false =>
        simp only
        refine ih (by simpa using hl) n ?_
        rcases List.mem_cons.mp h with e | e
        · subst e; simp at q
        · exact e
theorem bind_simple {fd : FuncData} {as : List Arg} {us : List Value} (hp : fd.params = ⟨[], as, none, [], [], none, []⟩) (hd : fd.defaults = .none) (hn : (as.map (·.arg)).Nodup) (hl : us.length = as.length) :
    bindArgs fd ⟨us, []⟩ = pure ((as.map (·.arg)).zip us) := by
  unfold bindArgs
  have hl2 : us.length = (as.map (·.arg)).length := by simpa using hl
  have hm : ((as.map (·.arg)).filter fun n => (((as.map (·.arg)).zip us).lookup n).isNone) = [] := by
    rw [List.filter_eq_nil_iff]
    intro n h
    rw [zip_has hl2 n h]; simp
  have hz := zip_lookup hn hl2
  rw [hp, hd]
  have hs : seqItems? Value.none = pure none := rfl
  simp only [List.map_nil, List.nil_append, List.append_nil, hs]
  simp [hm, hz, hl]
  have hz' : List.filterMap ((fun n => Option.map (fun x => (n, x)) (List.lookup n ((List.map (fun x => x.arg) as).zip us))) ∘ fun x => x.arg) as = (List.map (fun x => x.arg) as).zip us := by
    rw [← List.filterMap_map]; exact hz
  rw [if_neg, hz']
  have e0 : (List.map (fun x => x.arg) as).length - (List.drop ((#[] : Array Value).size - (List.map (fun x => x.arg) as).length) ([] : List Value)).length = (List.map (fun x => x.arg) as).length := by
    rw [List.drop_nil]; rfl
  rw [e0, List.take_length, hm]
  simp

/-! ### the program's functions -/
structure MF where
  k : Nat
  nm : List Str
  body : MSs
/-- how a call ends -/
def fin : Res Flow → Res D
  | .ok (.rt d) M => .ok d M
  | .ok (.nx _) M => .ok .non M
  | .ok (.xc c fs _) M => .exc c fs M
  | _ => .bad
def enter (F : MF) (ds : List D) : Sl := ds.map Slot.val ++ List.replicate (F.nm.length - ds.length) .no
/-- calls, n deep -/
def callN (fs : List MF) (E : Env) : Nat → Nat → List D → MH → Res D
  | 0 => fun _ _ _ => .bad
  | n + 1 => fun f ds M => match fs[f]? with
    | some F => if ds.length = F.k then fin (exs { E with call := callN fs E n } F.body (enter F ds) M) else .bad
    | none => .bad
abbrev envN (fs : List MF) (E : Env) (n : Nat) : Env := { E with call := callN fs E n }
def simpleP : Arguments → Bool
  | ⟨[], _, none, [], [], none, []⟩ => true
  | _ => false
theorem simpleP_ok {p : Arguments} (h : simpleP p = true) : p = ⟨[], p.args, none, [], [], none, []⟩ := by
  unfold simpleP at h
  split at h
  · rfl
  · cases h
def parN (p : Arguments) : List Str := p.args.map (·.arg)
/-- is the def what the mini function says -/
def chkF (P : Pg) (params : Arguments) (body : List Stmt) (scope : Scope) (F : MF) : Bool :=
  (simpleP params && (decide F.nm.Nodup && (F.nm.take F.k == parN params && decide (F.k = (parN params).length)))) &&
  ((decide (scope.kind = .function) && (!scope.isCoroutine && !scope.isGenerator)) && ((parN params).all (fun x => scope.names.lookup x == some .local || scope.names.lookup x == some .cell) && (scope.names.all fun y => !decide (y.2 = .free))) &&
  chkSs P ⟨F.nm, scope.names⟩ F.body body)
section
variable {T : Tb} {P : Pg} {E : MP.Env} {fs : List MF} {adr : Nat → Addr} {n : Nat} {prog : Program} {w : World} {K : Frag} {mg : Str → Option Value} {base : Heap}
theorem chkF_sc {params : Arguments} {body : List Stmt} {scope : Scope} {F : MF} (h : chkF P params body scope F = true) : FnScope F.nm (parN params) scope ∧ simpleP params = true ∧ F.k = (parN params).length ∧ chkSs P ⟨F.nm, scope.names⟩ F.body body = true := by
  unfold chkF at h
  simp only [Bool.and_eq_true, decide_eq_true_eq, Bool.not_eq_true', beq_iff_eq, List.all_eq_true, Bool.or_eq_true] at h
  obtain ⟨⟨h1, h2, h3, h4⟩, ⟨⟨h5, h6, h7⟩, h8, h9⟩, h10⟩ := h
  exact ⟨⟨h5, h6, h7, h2, by rw [← h4]; exact h3, h8, fun y hy e => by
    have := h9 y hy
    rw [e] at this
    simp at this⟩, h1, h4, h10⟩
theorem binds_of {x qual : Str} {params : Arguments} {body : List Stmt} {scope : Scope} {F : MF} {f : Addr} {fd : FuncData} (FD : FunD K x qual params body scope [] [] f fd) (h : chkF P params body scope F = true) :
    Binds K fd (parN params) [] ∧ ∀ (s : Shared) (us : List Value), us.length = (parN params).length → BindsTo s fd ⟨us, []⟩ ((parN params).zip us) := by
  obtain ⟨S, h1, h2, h3⟩ := chkF_sc h
  have nd : (params.args.map (·.arg)).Nodup := by
    show (parN params).Nodup
    rw [← S.pre]
    exact S.nd.sublist (List.take_sublist _ _)
  have go : ∀ (kV doc pm : Value) (an : Option Addr) (cdv ct : Value) (us : List Value), us.length = (parN params).length → bindArgs (PySem.W.fnOf x qual params body scope .none kV doc pm an cdv ct) ⟨us, []⟩ = pure ((parN params).zip us) := fun kV doc pm an cdv ct us hl =>
    bind_simple (fd := PySem.W.fnOf x qual params body scope .none kV doc pm an cdv ct) (as := params.args) (simpleP_ok h1) rfl nd (by simpa [parN] using hl)
  exact ⟨FD.bindsN go, fun s us hl => FD.bindsA go s us hl⟩
theorem Reps.val {G : Gh} {H : Hp} {ds : List D} {vs : List V} (r : Reps K G H ds vs) (k : Nat) : RelS K G H (vs.map some ++ List.replicate k none) (ds.map Slot.val ++ List.replicate k .no) := by
  have hl := r.length
  have nown : ∀ (i : Nat) l, (ds.map Slot.val ++ List.replicate k .no)[i]? ≠ some (.own l) := fun i l q => by
    by_cases h : i < ds.length
    · rw [List.getElem?_append_left (by simpa using h), List.getElem?_map] at q
      cases e : ds[i]? with
      | none => rw [e] at q; cases q
      | some d => rw [e] at q; cases q
    · rw [List.getElem?_append_right (by simpa using h), List.getElem?_replicate] at q
      split at q <;> cases q
  refine ⟨by simp [hl], fun i d q => ?_, fun i l q => absurd q (nown i l), fun i j l m a _ q => absurd q (nown i l)⟩
  by_cases h : i < ds.length
  · rw [List.getElem?_append_left (by simpa using h), List.getElem?_map] at q
    cases e : ds[i]? with
    | none => rw [e] at q; cases q
    | some d' =>
      rw [e] at q
      cases q
      obtain ⟨v, hv, rv⟩ := r.get e
      refine ⟨v, ?_, rv⟩
      rw [List.getElem?_append_left (by simp; omega), List.getElem?_map, hv]; rfl
  · rw [List.getElem?_append_right (by simpa using h), List.getElem?_replicate] at q
    split at q <;> cases q
theorem fn_ok {f : Nat} {F : MF} {x qual : Str} {params : Arguments} {body : List Stmt} {scope : Scope} {fd : FuncData} (pr : PrOk T P (envN fs E n) adr n prog w K mg base) (hf : fs[f]? = some F) (FD : FunD K x qual params body scope [] [] (adr f) fd) (h : chkF P params body scope F = true) :
    FnOk prog w K mg base (L2.CX prog w) (n + 1) (adr f) fd (parN params) (spM T K (envN fs E (n + 1)) f F.k) := by
  obtain ⟨S, h1, h2, h3⟩ := chkF_sc h
  refine FD.ok S (fun vs H Q Ex ⟨G, M, ds, hM, r, hl, _⟩ => by rw [← r.length, hl, h2]) fun cdv A outer s H vs Q Ex hr ⟨G, M, ds, hM, r, hl, kt⟩ => ?_
  have xo : XOs ⟨F.nm, scope.names⟩ n (cxOf (L2.CX prog w) prog w K mg base F.nm qual scope (adr f) cdv A outer s H Ex) (fun cls d _ H => Ex cls d H) := by
    refine ⟨⟨rfl, S.nd, fun x k h => .inl h, fun _ _ => rfl, rfl, hr, takes_of rfl rfl rfl rfl⟩, passes_of (K := fun e s'' => L2.CX prog w outer H s Ex e s'') (E₁ := fun e s'' => L2.CX prog w outer H s Ex e s'') rfl, S.kind, rfl, rfl⟩
  refine ⟨_, cSs F.body (X := cxOf (L2.CX prog w) prog w K mg base F.nm qual scope (adr f) cdv A outer s H Ex) pr xo h3, G, H, G, enter F ds, M, ⟨hM, ?_, .refl, fun i l a q => ?_⟩, ?_⟩
  · have e : L2.start F.nm vs = vs.map some ++ List.replicate (F.nm.length - ds.length) none := by
      unfold L2.start
      rw [r.length]
    rw [e]
    exact r.val _
  · exfalso
    unfold enter at q
    by_cases hi : i < ds.length
    · rw [List.getElem?_append_left (by simpa using hi), List.getElem?_map] at q
      cases e : ds[i]? with
      | none => rw [e] at q; cases q
      | some d => rw [e] at q; cases q
    · rw [List.getElem?_append_right (by simpa using hi), List.getElem?_replicate] at q
      split at q <;> cases q
  · have kt : Kont T K (fun c d _ H => Ex c d H) [] G H (callN fs E (n + 1) f ds M) (repV K) Q := kt
    simp only [callN, hf] at kt
    rw [if_pos hl] at kt
    revert kt
    show Kont T K (fun c d _ H => Ex c d H) [] G H (fin (exs (envN fs E n) F.body (enter F ds) M)) (repV K) Q → SK T K (fun cls d _ H => Ex cls d H) G H G H (exs (envN fs E n) F.body (enter F ds) M) _
    cases exs (envN fs E n) F.body (enter F ds) M with
    | ok fl M' =>
      cases fl with
      | nx s' => exact fun kt G' H' σ' le r => kt G' H' .non r.e r.m .non
      | rt d => exact fun kt G' H' v e m r => kt G' H' v e m r
      | xc c fs s' => exact fun kt G' H' σ' dx le r ea => kt G' H' dx r.e r.m ea
      | bk s' => exact fun kt => kt.elim
      | ct s' => exact fun kt => kt.elim
    | exc c fs M' => exact fun kt => kt.elim
    | bad => exact fun kt => kt.elim
/-- what is known of the program behind its top -/
structure Pr0 (T : Tb) (P : Pg) (E : MP.Env) (fs : List MF) (adr : Nat → Addr) (K : Frag) (mg : Str → Option Value) : Prop where
  free : ∀ x ∈ P.free, mg x = none
  gl : ∀ (g : Nat) x d, P.gls[g]? = some x → E.glob[g]? = some d → ∃ u v, mg x = some u ∧ RelV v u ∧ ∀ G H, Rep K G H d v
  ar : P.ar = fs.map (·.k)
  fd : ∀ (f : Nat) F, fs[f]? = some F → ∃ x qual params body scope fd, FunD K x qual params body scope [] [] (adr f) fd ∧ chkF P params body scope F = true
  nm : ∀ (f : Nat) x, P.fns[f]? = some (some x) → mg x = some (.ref (adr f))
theorem pr_all (h : Pr0 T P E fs adr K mg) : ∀ n, PrOk T P (envN fs E n) adr n prog w K mg base := by
  have har : ∀ (f : Nat) k, P.ar[f]? = some k → ∃ F, fs[f]? = some F ∧ F.k = k := fun f k e => by
    rw [h.ar, List.getElem?_map] at e
    cases q : fs[f]? with
    | none => rw [q] at e; cases e
    | some F => rw [q] at e; exact ⟨F, rfl, Option.some.inj e⟩
  have harc : ∀ n (f : Nat) ds M, P.ar[f]? ≠ some ds.length → (envN fs E n).call f ds M = .bad := fun n f ds M e => by
    cases n with
    | zero => rfl
    | succ n =>
      show callN fs E (n + 1) f ds M = .bad
      simp only [callN]
      cases q : fs[f]? with
      | none => rfl
      | some F =>
        simp only
        rw [if_neg]
        intro z
        apply e
        rw [h.ar, List.getElem?_map, q, z]; rfl
  have hkp : ∀ (f k : Nat), P.ar[f]? = some k → PySem.W.keepIn K (.ref (adr f)) = true := fun f k e => by
    obtain ⟨F, q, _⟩ := har f k e
    obtain ⟨x, qual, params, body, scope, fd, FD, _⟩ := h.fd f F q
    exact FD.kp
  intro n
  induction n with
  | zero =>
    refine ⟨h.free, h.gl, harc 0, fun f k e => ?_, hkp, h.nm⟩
    obtain ⟨F, q, hk⟩ := har f k e
    obtain ⟨x, qual, params, body, scope, fd, FD, ck⟩ := h.fd f F q
    refine ⟨fd, parN params, by rw [← hk]; exact (chkF_sc ck).2.2.1.symm, (binds_of FD ck).1, ?_, ?_⟩
    · rintro vs H Q Ex ⟨G, M, ds, _, _, _, kt⟩
      exact kt.elim
    · rintro A outer s H args us vs Q Ex _ _ _ _ ⟨G, M, ds, _, _, _, kt⟩
      exact kt.elim
  | succ n ih =>
    refine ⟨h.free, h.gl, harc (n + 1), fun f k e => ?_, hkp, h.nm⟩
    obtain ⟨F, q, hk⟩ := har f k e
    obtain ⟨x, qual, params, body, scope, fd, FD, ck⟩ := h.fd f F q
    subst hk
    exact ⟨fd, parN params, (chkF_sc ck).2.2.1.symm, (binds_of FD ck).1, fn_ok ih q FD ck⟩
/-- the law's promise -/
theorem law_sp {f : Nat} {H : Hp} {a : Addr} {ns : List Int} (ho : Only H) (hs : SqL K H a (ns.map V.int)) (hl : ∃ M, callN fs E n f [.scr ns] [] = .ok (.bl true) M) : spM T K (envN fs E n) f 1 [.ref a] H (fun v _ => v = .bl true) fun _ _ _ => False := by
  obtain ⟨M, e⟩ := hl
  refine ⟨⟨[], fun _ => False⟩, [], [.scr ns], ⟨rfl, List.nodup_nil, by simp, by simp, by simp⟩, .cons (.scr ?_) .nil, rfl, ?_⟩
  · rcases hs with (q | ⟨o, q⟩) | q
    · rcases ho a with z | ⟨o, xs, z⟩
      · rw [z] at q; cases q
      · rw [z] at q; cases q
    · exact .inl ⟨o, q⟩
    · exact .inr q
  · show Kont T K (fun c d _ H => (fun _ _ _ => False : XK) c d H) [] _ H (callN fs E n f [.scr ns] []) (repV K) _
    rw [e]
    intro G' H' v _ _ r
    cases r
    rfl
end
end MP

set_option Elab.async false
set_option linter.all false
set_option maxRecDepth 100000
set_option maxHeartbeats 2000000
set_option autoImplicit false
/-! MP, part v: behind the program's top -/
namespace MP
open PySem PySem.Spec PyProof.Rows L2

/-! ### constants -/
mutual
def vRep (K : Frag) : D → Value → Bool
  | .non, u => (match u with
    | .none => true
    | _ => false)
  | .bl b, u => (match u with
    | .bool c => b == c
    | _ => false)
  | .int i, u => (match u with
    | .int j _ => decide (i = j)
    | _ => false)
  | .str x, u => (match u with
    | .str y _ => decide (x = y)
    | _ => false)
  | .tup ds, u => (match u with
    | .ref a => (match K.lookup a with
      | some ⟨.type c, _, .seq its _, _⟩ => decide (c = "tuple") && (decide (its.size ≤ sizeLine) && vReps K ds its.toList)
      | _ => false)
    | _ => false)
  | _, _ => false
def vReps (K : Frag) : List D → List Value → Bool
  | [], us => us.isEmpty
  | d :: ds, us => (match us with
    | u :: us => vRep K d u && vReps K ds us
    | [] => false)
end
mutual
theorem vRep_ok {K : Frag} : ∀ (d : D) (u : Value), vRep K d u = true → ∃ v, RelV v u ∧ ∀ G H, Rep K G H d v
  | .non, u, h => by
    simp only [vRep] at h
    split at h
    · exact ⟨.non, rfl, fun _ _ => .non⟩
    · cases h
  | .bl b, u, h => by
    simp only [vRep] at h
    split at h
    · rw [eq_of_beq h]
      exact ⟨.bl _, rfl, fun _ _ => .bl _⟩
    · cases h
  | .int i, u, h => by
    simp only [vRep] at h
    split at h
    · rw [of_decide_eq_true h]
      exact ⟨.int _, ⟨_, rfl⟩, fun _ _ => .int _⟩
    · cases h
  | .str i, u, h => by
    simp only [vRep] at h
    split at h
    · rw [of_decide_eq_true h]
      exact ⟨.str _, ⟨_, rfl⟩, fun _ _ => .str _⟩
    · cases h
  | .tup ds, u, h => by
    simp only [vRep] at h
    split at h
    · rename_i a
      split at h
      · rename_i c od its n sl hq
        simp only [Bool.and_eq_true, decide_eq_true_eq] at h
        obtain ⟨rfl, h2, h3⟩ := h
        obtain ⟨vs, r1, r2⟩ := vReps_ok ds its.toList h3
        exact ⟨.ref a, rfl, fun G H => .tup (.inr ⟨_, its, n, hq, rfl, rfl, h2, r1⟩) (r2 G H)⟩
      · cases h
    · cases h
  | .lst _, u, h => by simp [vRep] at h
  | .ref _, u, h => by simp [vRep] at h
  | .own _, u, h => by simp [vRep] at h
  | .scr _, u, h => by simp [vRep] at h
theorem vReps_ok {K : Frag} : ∀ (ds : List D) (us : List Value), vReps K ds us = true → ∃ vs, Vals vs us ∧ ∀ G H, Reps K G H ds vs
  | [], us, h => by
    simp only [vReps] at h
    cases us with
    | nil => exact ⟨[], .nil, fun _ _ => .nil⟩
    | cons u us => cases h
  | d :: ds, us, h => by
    cases us with
    | nil => simp [vReps] at h
    | cons u us =>
      simp only [vReps, Bool.and_eq_true] at h
      obtain ⟨v, r1, r2⟩ := vRep_ok d u h.1
      obtain ⟨vs, r3, r4⟩ := vReps_ok ds us h.2
      exact ⟨v :: vs, .cons r1 r3, fun G H => .cons (r2 G H) (r4 G H)⟩
end
def gRep (K : Frag) (p : Str × D) : Bool := match PySem.W.nsIn K mainGlobals p.1 with
  | some (some u) => vRep K p.2 u
  | _ => false
/-! ### the hook -/
def obsM (fa : List He.Fa) (fn : List He.DefD) (gl : List (Str × D)) (K : Frag) : He.AlD := ((He.obsD fa fn K).1 && gl.all (gRep K), (He.obsD fa fn K).2)
def obsMG (n : Nat) (fa : List He.Fa) (fn : List He.DefD) (gl : List (Str × D)) (g : Addr → Option Obj) : He.AlD := obsM fa fn gl (He.frG g (He.asD g n))
def hookM (n : Nat) (fa : List He.Fa) (fn : List He.DefD) (gl : List (Str × D)) : PySem.W.Hook where
  α := He.AlD
  obs := fun s => obsMG n fa fn gl s.heap.get?
  val := fun _ => He.valD fn
  says := fun _ h => ∃ K : Frag, K.In h ∧ obsM fa fn gl K = He.valD fn
  of := fun _ _ e => ⟨_, He.frG_in, e⟩
  keeps := fun _ _ _ ⟨K, hK, c⟩ k => ⟨K, PySem.W.Frag.In.keeps hK k, c⟩
theorem obsMG_eq {n : Nat} {fa : List He.Fa} {fn : List He.DefD} {gl : List (Str × D)} {g : Addr → Option Obj} {s : Shared} (h : ∀ a, g a = s.heap.get? a) : obsMG n fa fn gl g = (hookM n fa fn gl).obs s := by
  have e : g = s.heap.get? := funext h
  rw [e] <;> rfl
/-! ### the facts -/
/-- the f-th def's name as a global -/
def fnName (d : He.DefD) : Option Str := match d.at_ with
  | (x, none) => some x
  | _ => none
def mkPg (free : List Str) (dd : List He.DefD) (fs : List MF) (gl : List (Str × D)) (cls fnm : List Str) : Pg := ⟨free, dd.map fnName, fs.map (·.k), gl.map (·.1), cls, fnm⟩
def mkFa (free : List Str) (dd : List He.DefD) : List He.Fa := free.map .free ++ dd.filterMap fun d => (fnName d).map .glo
def chkFs (P : Pg) : List He.DefD → List MF → Bool
  | [], [] => true
  | d :: dd, F :: fs => ((d.dfl.isEmpty && d.kwd.isEmpty) && chkF P d.params d.body d.scope F) && chkFs P dd fs
  | _, _ => false
theorem chkFs_at {P : Pg} : ∀ {dd : List He.DefD} {fs : List MF} {f : Nat} {F : MF}, chkFs P dd fs = true → fs[f]? = some F → ∃ d, dd[f]? = some d ∧ d.dfl = [] ∧ d.kwd = [] ∧ chkF P d.params d.body d.scope F = true
  | [], [], f, F, _, e => by simp at e
  | d :: dd, G :: fs, f, F, h, e => by
    simp only [chkFs, Bool.and_eq_true, List.isEmpty_iff] at h
    obtain ⟨⟨⟨h1, h2⟩, h3⟩, h4⟩ := h
    cases f with
    | zero =>
      simp at e
      subst e
      exact ⟨d, rfl, h1, h2, h3⟩
    | succ f =>
      obtain ⟨d', a, b⟩ := chkFs_at (dd := dd) (fs := fs) (f := f) h4 (by simpa using e)
      exact ⟨d', by simpa using a, b⟩
  | [], _ :: _, _, _, h, _ => by simp [chkFs] at h
  | _ :: _, [], _, _, h, _ => by simp [chkFs] at h
def adrM (dd : List He.DefD) (K : Frag) (f : Nat) : Addr := match dd[f]? with
  | some d => He.fAd K d.at_
  | none => 0
theorem facts {T : Tb} {free : List Str} {dd : List He.DefD} {fs : List MF} {gl : List (Str × D)} {cls fnm : List Str} {E : MP.Env} {K : Frag} {h : Heap} {mg : Str → Option Value} (X : K.In h) (G : h.Ns mainGlobals mg) (c : obsM (mkFa free dd) dd gl K = He.valD dd) (hE : E.glob = gl.map (·.2))
    (ck : chkFs (mkPg free dd fs gl cls fnm) dd fs = true) : Pr0 T (mkPg free dd fs gl cls fnm) E fs (adrM dd K) K mg := by
  have c0 : He.SaysD (mkFa free dd) dd K := by
    have e1 : ((He.obsD (mkFa free dd) dd K).1 && gl.all (gRep K)) = true := congrArg (fun z : He.AlD => z.1) c
    have e2 : (He.obsD (mkFa free dd) dd K).2 = dd.map He.DefD.val := congrArg (fun z : He.AlD => z.2) c
    show He.obsD (mkFa free dd) dd K = He.valD dd
    exact Prod.ext (Bool.and_eq_true_iff.mp e1).1 e2
  have cg : gl.all (gRep K) = true := by
    have e1 : ((He.obsD (mkFa free dd) dd K).1 && gl.all (gRep K)) = true := congrArg (fun z : He.AlD => z.1) c
    exact (Bool.and_eq_true_iff.mp e1).2
  have fact : ∀ f ∈ mkFa free dd, f.ok K = true := fun f hf => by
    obtain ⟨i, hi⟩ := List.mem_iff_getElem?.mp hf
    exact c0.fact i hi
  refine ⟨fun x hx => ?_, fun g x d e1 e2 => ?_, rfl, fun f F e => ?_, fun f x e => ?_⟩
  · exact He.free_ok X G (fact (.free x) (List.mem_append_left _ (List.mem_map.mpr ⟨x, hx, rfl⟩)))
  · have e1 : (gl.map (·.1))[g]? = some x := e1
    rw [hE] at e2
    rw [List.getElem?_map] at e1 e2
    cases q : gl[g]? with
    | none => rw [q] at e1; cases e1
    | some p =>
      rw [q] at e1 e2
      cases e1
      cases e2
      have hp := List.all_eq_true.mp cg p (List.mem_of_getElem? q)
      unfold gRep at hp
      split at hp
      · rename_i u hu
        obtain ⟨v, r1, r2⟩ := vRep_ok p.2 u hp
        exact ⟨u, v, PySem.W.mg_of X G hu, r1, r2⟩
      · cases hp
  · obtain ⟨d, hd, h1, h2, h3⟩ := chkFs_at ck e
    obtain ⟨fd, FD⟩ := c0.def_ f hd
    refine ⟨d.name, d.qual, d.params, d.body, d.scope, fd, ?_, h3⟩
    have e1 : d.dvs K = [] := by unfold He.DefD.dvs; rw [h1]; rfl
    have e2 : d.kws K = [] := by unfold He.DefD.kws; rw [h2]; rfl
    have e3 : adrM dd K f = He.fAd K d.at_ := by unfold adrM; rw [hd]
    rw [e1, e2] at FD
    rw [e3]
    exact FD
  · have e : (dd.map fnName)[f]? = some (some x) := e
    rw [List.getElem?_map] at e
    cases q : dd[f]? with
    | none => rw [q] at e; cases e
    | some d =>
      rw [q] at e
      have e : fnName d = some x := Option.some.inj e
      have e3 : adrM dd K f = He.ga K x := by
        unfold adrM
        rw [q]
        unfold fnName at e
        split at e
        · rename_i y hy
          cases e
          show He.fAd K d.at_ = _
          rw [hy]; rfl
        · cases e
      rw [e3]
      exact He.glo_ok X G (fact (.glo x) (List.mem_append_right _ (List.mem_filterMap.mpr ⟨d, List.mem_of_getElem? q, by rw [e]; rfl⟩)))
/-- the names of fields: those of the list, and others -/
def noNames : Cl := ⟨fun _ => 0, fun i => ⟨Array.replicate i 0⟩, fun i j h => by
  have := congrArg (fun z : Str => z.cps.size) h
  simpa using this⟩
def mkD (x : Str) (st : Stmt) : He.DefD := ⟨(x, none), x, x, defArgs st, defBody st, defScope st, [], []⟩
theorem cx_no {P : Program} {w : World} {outer : List PySem.Env} {H : Hp} {s s' : Shared} {e : Value} (h : L2.CX P w outer H s (fun _ _ _ => False) e s') : False := by
  obtain ⟨_, _, _, _, _, _, _, _, _, _, _, _, z⟩ := h
  exact z
/-- a def, where no error is wanted -/
theorem fn_calm {P : Program} {w : World} {K : Frag} {mg : Str → Option Value} {base : Heap} {k : Nat} {f : Addr} {fd : FuncData} {ps : List Str} {sp : Sp} (F : FnOk P w K mg base (L2.CX P w) k f fd ps sp) : FnOk P w K mg base CX0 k f fd ps (fun vs H Q _ => sp vs H Q fun _ _ _ => False) :=
  ⟨fun vs H Q E h => F.len vs H Q _ h, fun A outer s H args us vs Q E hr he hb hv hs => codeAny_mono (F.run A outer s H args us vs Q _ hr he hb hv hs) fun r s' q => by
    cases r with
    | error e => exact (cx_no q).elim
    | ok fl => cases fl <;> exact q⟩
/-- the walk of a law -/
theorem walk_law {l : PySem.W.OpenLaw} {q : Program} {loose : List Str} {XP : (Str → Option Value) → Heap → Prop} {d : DefRec} {T : Tb} {free : List Str} {dd : List He.DefD} {fs : List MF} {gl : List (Str × D)} {cls fnm : List Str} {E : MP.Env} {N n f hn : Nat} {ld : He.DefD} {F : MF} (h1 : l.most = some N) (h2 : N ≤ sizeLine) (h3 : d.params.defaults = []) (h4 : Room (n + 1) callerA)
    (hE : E.glob = gl.map (·.2)) (ck : chkFs (mkPg free dd fs gl cls fnm) dd fs = true) (hf : fs[f]? = some F) (hk : F.k = 1) (hd : dd[f]? = some ld) (hx : parN ld.params = [Str.ofString "script"]) (hn' : fnName ld = some d.name)
    (hl : ∀ ns : List Int, ns.length ≤ N → ∃ M, callN fs E (n + 1) f [.scr ns] [] = .ok (.bl true) M) :
    PySem.W.WalkO q loose XP (hookM hn (mkFa free dd) dd gl).says l.row.toRowW d [] (fun f vs => PySem.call f vs) := by
  refine L2.walk_ofE (n := N) (k := n + 1) (x := Str.ofString "script") (CX := CX0) h1 h2 h3 h4 ?_ (fun _ _ _ _ z => z)
  rintro w mg fa h ⟨K, X, c⟩ G hmg
  have pr := facts (T := T) (cls := cls) (fnm := fnm) (E := E) X G c hE ck
  obtain ⟨d', hd', e1, e2, ckF⟩ := chkFs_at ck hf
  rw [hd] at hd'
  cases hd'
  have ea : adrM dd K f = fa := by
    have h5 := pr.nm f d.name (by
      show (dd.map fnName)[f]? = _
      rw [List.getElem?_map, hd, ← hn']; rfl)
    rw [hmg] at h5
    injection h5 with h5
    injection h5 with h5
    exact h5.symm
  have c0 : He.SaysD (mkFa free dd) dd K := by
    have e1 : ((He.obsD (mkFa free dd) dd K).1 && gl.all (gRep K)) = true := congrArg (fun z : He.AlD => z.1) c
    have e2 : (He.obsD (mkFa free dd) dd K).2 = dd.map He.DefD.val := congrArg (fun z : He.AlD => z.2) c
    show He.obsD (mkFa free dd) dd K = He.valD dd
    exact Prod.ext (Bool.and_eq_true_iff.mp e1).1 e2
  obtain ⟨fd, FD⟩ := c0.def_ f hd
  have ed : ld.dvs K = [] := by unfold He.DefD.dvs; rw [e1]; rfl
  have ek : ld.kws K = [] := by unfold He.DefD.kws; rw [e2]; rfl
  have eA : He.fAd K ld.at_ = fa := by rw [← ea]; unfold adrM; rw [hd]
  rw [ed, ek, eA] at FD
  obtain ⟨b1, b2⟩ := binds_of FD ckF
  refine ⟨K, fd, fun vs H Q _ => spM T K (envN fs E (n + 1)) f 1 vs H Q fun _ _ _ => False, X, fun s u => ?_, fun H a ns hl' ho hs => law_sp ho hs (hl ns hl'), fun base kb gb => fn_calm ?_⟩
  · have := b2 s [u] (by rw [hx]; rfl)
    rw [hx] at this
    exact this
  · have FD' : FunD K ld.name ld.qual ld.params ld.body ld.scope [] [] (adrM dd K f) fd := by rw [ea]; exact FD
    have := fn_ok (pr_all (prog := l.prog) (w := w) (base := base) pr n) hf FD' ckF
    rw [hk, hx, ea] at this
    exact this
end MP

set_option Elab.async false
set_option linter.all false
set_option maxRecDepth 100000
set_option maxHeartbeats 2000000
set_option autoImplicit false
/-! MP, part w: walking the evaluator -/
namespace MP
open PySem

/-- the result is a value that Q wants, or an error that E wants -/
inductive wp {α : Type} : Res α → (α → MH → Prop) → (Nat → List D → MH → Prop) → Prop where
  | ok {a : α} {M : MH} {Q : α → MH → Prop} {E : Nat → List D → MH → Prop} : Q a M → wp (.ok a M) Q E
  | exc {c : Nat} {fs : List D} {M : MH} {Q : α → MH → Prop} {E : Nat → List D → MH → Prop} : E c fs M → wp (.exc c fs M) Q E
section
variable {α β : Type} {Q : α → MH → Prop} {E : Nat → List D → MH → Prop} {M : MH}
theorem wp_ok {a : α} : wp (.ok a M) Q E = Q a M := propext ⟨fun h => (by cases h; assumption), .ok⟩
theorem wp_bad : wp (.bad : Res α) Q E = False := propext ⟨fun h => (by cases h), False.elim⟩
theorem wp_exc {c : Nat} {fs : List D} : wp (.exc c fs M : Res α) Q E = E c fs M := propext ⟨fun h => (by cases h; assumption), .exc⟩
theorem wp_bind {r : Res β} {f : β → MH → Res α} : wp (r.bind f) Q E = wp r (fun a M => wp (f a M) Q E) E := by
  cases r with
  | ok a M => rw [wp_ok]; rfl
  | exc c fs M => rw [wp_exc]; exact wp_exc
  | bad => rw [wp_bad]; exact wp_bad
theorem wp_sb {r : Res β} {s : Sl} {f : β → MH → Res Flow} {Q : Flow → MH → Prop} : wp (r.sb s f) Q E = wp r (fun a M => wp (f a M) Q E) (fun c fs M => Q (.xc c fs s) M) := by
  cases r with
  | ok a M => rw [wp_ok]; rfl
  | exc c fs M => rw [wp_exc]; exact wp_ok
  | bad => rw [wp_bad]; exact wp_bad
theorem wp_opt_some {a : α} : wp (Res.opt (some a) M) Q E = Q a M := wp_ok
theorem wp_opt_none : wp (Res.opt (none : Option α) M) Q E = False := wp_bad
theorem wp_opt_ite {c : Prop} [Decidable c] {a : α} : wp (Res.opt (if c then some a else none) M) Q E = (c ∧ Q a M) := by
  by_cases h : c
  · rw [if_pos h, wp_opt_some]; simp [h]
  · rw [if_neg h, wp_opt_none]; simp [h]
theorem wp_opt_bind {o : Option β} {f : β → Option α} : wp (Res.opt (o.bind f) M) Q E = wp (Res.opt o M) (fun b M => wp (Res.opt (f b) M) Q E) E := by
  cases o with
  | none => rw [wp_opt_none]; exact wp_opt_none
  | some b => rw [wp_opt_some]; rfl
theorem wp_opt_map {o : Option β} {f : β → α} : wp (Res.opt (o.map f) M) Q E = wp (Res.opt o M) (fun b M => Q (f b) M) E := by
  cases o with
  | none => rw [wp_opt_none]; exact wp_opt_none
  | some b => rw [wp_opt_some]; exact wp_opt_some
theorem wp_ite {c : Prop} [Decidable c] {a b : Res α} : wp (if c then a else b) Q E = if c then wp a Q E else wp b Q E := by by_cases h : c <;> simp [h]
theorem wp_mono {r : Res α} {Q' : α → MH → Prop} (h : wp r Q E) (w : ∀ a M, Q a M → Q' a M) : wp r Q' E := by
  cases h with
  | ok h => exact .ok (w _ _ h)
  | exc h => exact .exc h
theorem wp_eq {r : Res α} {a : α} {M' : MH} (e : r = .ok a M') (h : Q a M') : wp r Q E := by rw [e]; exact .ok h
theorem wp_get {r : Res α} (h : wp r Q (fun _ _ _ => False)) : ∃ a M, r = .ok a M ∧ Q a M := by
  cases h with
  | ok h => exact ⟨_, _, rfl, h⟩
  | exc h => exact h.elim
end
/-- a call's end -/
def fin1 (Q : D → MH → Prop) (E : Nat → List D → MH → Prop) : Flow → MH → Prop := fun f M => match f with
  | .rt d => Q d M
  | .nx _ => Q .non M
  | .xc c fs _ => E c fs M
  | _ => False
@[simp] theorem fin1_rt (Q E d M) : fin1 Q E (.rt d) M = Q d M := rfl
@[simp] theorem fin1_nx (Q E s M) : fin1 Q E (.nx s) M = Q .non M := rfl
@[simp] theorem fin1_xc (Q E c fs s M) : fin1 Q E (.xc c fs s) M = E c fs M := rfl
@[simp] theorem fin1_bk (Q E s M) : fin1 Q E (.bk s) M = False := rfl
@[simp] theorem fin1_ct (Q E s M) : fin1 Q E (.ct s) M = False := rfl
theorem wp_fin {r : Res Flow} {Q : D → MH → Prop} {E : Nat → List D → MH → Prop} : wp (fin r) Q E = wp r (fin1 Q E) (fun _ _ _ => False) := by
  cases r with
  | ok f M => cases f <;> rw [wp_ok] <;> first | exact wp_ok | exact wp_exc | exact wp_bad
  | exc c fs M => rw [wp_exc]; exact wp_bad
  | bad => rw [wp_bad]; exact wp_bad
theorem wp_call {fs : List MF} {E0 : Env} {n f : Nat} {F : MF} {ds : List D} {M : MH} {Q : D → MH → Prop} {E : Nat → List D → MH → Prop} (hf : fs[f]? = some F) (hl : ds.length = F.k) :
    wp (callN fs E0 (n + 1) f ds M) Q E = wp (exs (envN fs E0 n) F.body (enter F ds) M) (fin1 Q E) (fun _ _ _ => False) := by
  rw [← wp_fin]
  simp only [callN, hf]
  rw [if_pos hl]
/-- what follows a statement -/
def nx1 (k : Sl → MH → Res Flow) (Q : Flow → MH → Prop) (E : Nat → List D → MH → Prop) : Flow → MH → Prop := fun f M => match f with
  | .nx s => wp (k s M) Q E
  | f => Q f M
theorem wp_seq {R : Env} {st : MS} {r : MSs} {s : Sl} {M : MH} {Q : Flow → MH → Prop} {E : Nat → List D → MH → Prop} : wp (exs R (.cons st r) s M) Q E = wp (ex R st s M) (nx1 (exs R r) Q E) E := by
  simp only [exs, wp_bind]
  congr 1
  funext f M
  cases f <;> first | rfl | exact wp_ok
theorem wp_nil {R : Env} {s : Sl} {M : MH} {Q : Flow → MH → Prop} {E : Nat → List D → MH → Prop} : wp (exs R .nil s M) Q E = Q (.nx s) M := by
  simp only [exs]
  exact wp_ok
@[simp] theorem nx1_nx (k Q E s M) : nx1 k Q E (.nx s) M = wp (k s M) Q E := rfl
@[simp] theorem nx1_rt (k Q E d M) : nx1 k Q E (.rt d) M = Q (.rt d) M := rfl
@[simp] theorem nx1_bk (k Q E d M) : nx1 k Q E (.bk d) M = Q (.bk d) M := rfl
@[simp] theorem nx1_ct (k Q E d M) : nx1 k Q E (.ct d) M = Q (.ct d) M := rfl
@[simp] theorem nx1_xc (k Q E c fs s M) : nx1 k Q E (.xc c fs s) M = Q (.xc c fs s) M := rfl
/-! ### loops -/
theorem wp_loopF {same : Sl → MH → Bool} {turn : D → Sl → MH → Res Flow} {xs : List D} {s : Sl} {M : MH} {Q : Flow → MH → Prop} {E : Nat → List D → MH → Prop} (P : Nat → Sl → MH → Prop) (h0 : P 0 s M) (hs : ∀ i s M, P i s M → same s M = true)
    (ht : ∀ (i : Nat) x s M, xs[i]? = some x → P i s M → wp (turn x s M) (fun f M => match f with
      | .nx s => P (i + 1) s M
      | .ct s => P (i + 1) s M
      | .bk s => Q (.nx s) M
      | f => Q f M) E) (hd : ∀ s M, P xs.length s M → Q (.nx s) M) : wp (loopF same turn xs s M) Q E := by
  suffices h : ∀ (ys : List D) (i : Nat) s M, (∀ (j : Nat) x, ys[j]? = some x → xs[i + j]? = some x) → i + ys.length = xs.length → P i s M → wp (loopF same turn ys s M) Q E from h xs 0 s M (fun j x e => by simpa using e) (by simp) h0
  intro ys
  induction ys with
  | nil =>
    intro i s M _ hl hp
    simp only [loopF]
    rw [if_pos (hs i s M hp)]
    have : i = xs.length := by simpa using hl
    subst this
    exact .ok (hd s M hp)
  | cons y ys ih =>
    intro i s M he hl hp
    simp only [loopF]
    rw [if_pos (hs i s M hp), wp_bind]
    have hy : xs[i]? = some y := by simpa using he 0 y (by simp)
    refine wp_mono (ht i y s M hy hp) fun f M q => ?_
    have nxt : ∀ s M, P (i + 1) s M → wp (loopF same turn ys s M) Q E := fun s M hp => ih (i + 1) s M (fun j x e => by
      have := he (j + 1) x (by simpa using e)
      rw [show i + 1 + j = i + (j + 1) by omega]
      exact this) (by simp at hl ⊢; omega) hp
    cases f with
    | nx s => exact nxt s M q
    | ct s => exact nxt s M q
    | bk s => exact .ok q
    | rt d => exact .ok q
    | xc c fs s => exact .ok q
theorem wp_loopC {same : MH → Bool} {turn : D → MH → Res (Option D)} {xs : List D} {M : MH} {Q : List D → MH → Prop} {E : Nat → List D → MH → Prop} (P : Nat → List D → MH → Prop) (h0 : P 0 [] M) (hs : ∀ i ds M, P i ds M → same M = true)
    (ht : ∀ (i : Nat) x ds M, xs[i]? = some x → P i ds M → wp (turn x M) (fun o M => P (i + 1) (ds ++ o.toList) M) E) (hd : ∀ ds M, P xs.length ds M → Q ds M) : wp (loopC same turn xs M) Q E := by
  suffices h : ∀ (ys : List D) (i : Nat) ds M, (∀ (j : Nat) x, ys[j]? = some x → xs[i + j]? = some x) → i + ys.length = xs.length → P i ds M → wp (loopC same turn ys M) (fun es M => Q (ds ++ es) M) E from h xs 0 [] M (fun j x e => by simpa using e) (by simp) h0
  intro ys
  induction ys with
  | nil =>
    intro i ds M _ hl hp
    simp only [loopC]
    rw [if_pos (hs i ds M hp)]
    have : i = xs.length := by simpa using hl
    subst this
    refine .ok ?_
    show Q (ds ++ []) M
    rw [List.append_nil]
    exact hd ds M hp
  | cons y ys ih =>
    intro i ds M he hl hp
    simp only [loopC]
    rw [if_pos (hs i ds M hp), wp_bind]
    have hy : xs[i]? = some y := by simpa using he 0 y (by simp)
    refine wp_mono (ht i y ds M hy hp) fun o M q => ?_
    rw [wp_bind]
    refine wp_mono (ih (i + 1) (ds ++ o.toList) M (fun j x e => by
      have := he (j + 1) x (by simpa using e)
      rw [show i + 1 + j = i + (j + 1) by omega]
      exact this) (by simp at hl ⊢; omega) q) fun es M q => ?_
    refine .ok ?_
    show Q (ds ++ (o.toList ++ es)) M
    rw [← List.append_assoc]
    exact q
/-- a comprehension that changes nothing -/
theorem wp_loopC_map {same : MH → Bool} {turn : D → MH → Res (Option D)} {xs : List D} {M : MH} {Q : List D → MH → Prop} {E : Nat → List D → MH → Prop} (g : D → D) (hs : same M = true) (ht : ∀ x ∈ xs, turn x M = .ok (some (g x)) M) : wp (loopC same turn xs M) Q E = Q (xs.map g) M := by
  have h : loopC same turn xs M = .ok (xs.map g) M := by
    induction xs with
    | nil => simp [loopC, hs]
    | cons x xs ih =>
      simp only [loopC]
      rw [if_pos hs, ht x List.mem_cons_self, Res.bind_ok, ih fun y hy => ht y (List.mem_cons_of_mem _ hy)]
      rfl
  rw [h, wp_ok]
theorem eq_of_wp {α : Type} {r : Res α} {a : α} {M : MH} (h : wp r (fun b M' => b = a ∧ M' = M) (fun _ _ _ => False)) : r = .ok a M := by
  cases h with
  | ok h => obtain ⟨e1, e2⟩ := h; rw [e1, e2]
  | exc h => exact h.elim
theorem wp_calm {α : Type} {r : Res α} {Q : α → MH → Prop} {E : Nat → List D → MH → Prop} : wp r.calm Q E = wp r Q (fun _ _ _ => False) := by
  cases r with
  | ok a M => rw [wp_ok]; exact wp_ok
  | exc c fs M => rw [wp_exc]; exact wp_bad
  | bad => rw [wp_bad]; exact wp_bad
theorem rngL_len (a : Int) (n : Nat) (c : Int) : (rngL a n c).length = n := by simp [rngL]
theorem atI_nat {α : Type} {l : List α} {i : Int} (h0 : 0 ≤ i) (h1 : i < l.length) : L2.atI l i = some (l[i.toNat]'(by omega)) := by
  unfold L2.atI L2.ixN
  rw [if_pos h0, if_pos h1]
  simp only [Option.bind_some]
  exact List.getElem?_eq_getElem _
/-! ### cases of the operations -/
theorem o2_add_int {i j : Int} : op2 .add (.int i) (.int j) = some (.int (i + j)) := rfl
theorem o2_sub_int {i j : Int} : op2 .sub (.int i) (.int j) = some (.int (i - j)) := rfl
theorem o2_mul_int {i j : Int} : op2 .mul (.int i) (.int j) = if mulOk i j then some (.int (i * j)) else none := rfl
theorem o2_fdiv_int {i j : Int} : op2 .fdiv (.int i) (.int j) = if decide (0 < j) && decide (j.natAbs.log2 < 9000) then some (.int (i / j)) else none := rfl
theorem o2_mod_int {i j : Int} : op2 .mod (.int i) (.int j) = if 0 < j then some (.int (i % j)) else none := rfl
theorem o2_pow_int {i j : Int} : op2 .pow (.int i) (.int j) = if decide (0 ≤ j) && (decide (j ≤ 1000000) && decide (i.natAbs < 2 ^ 64)) then some (.int (i ^ j.toNat)) else none := rfl
theorem o2_band_int {i j : Int} : op2 .band (.int i) (.int j) = some (.int (Builtin.bitAnd i j)) := rfl
theorem o2_bor_int {i j : Int} : op2 .bor (.int i) (.int j) = some (.int (Builtin.bitOr i j)) := rfl
theorem o2_bxor_int {i j : Int} : op2 .bxor (.int i) (.int j) = some (.int (Builtin.bitXor i j)) := rfl
theorem o2_shl_int {i j : Int} : op2 .shl (.int i) (.int j) = if decide (0 ≤ j) && decide (i.natAbs.log2 + j.toNat < 1000000) then some (.int (i * 2 ^ j.toNat)) else none := rfl
theorem o2_shr_int {i j : Int} : op2 .shr (.int i) (.int j) = if 0 ≤ j then some (.int (i / 2 ^ j.toNat)) else none := rfl
theorem o2_lt_int {i j : Int} : op2 .lt (.int i) (.int j) = some (.bl (decide (i < j))) := rfl
theorem o2_le_int {i j : Int} : op2 .le (.int i) (.int j) = some (.bl (decide (i ≤ j))) := rfl
theorem o2_gt_int {i j : Int} : op2 .gt (.int i) (.int j) = some (.bl (decide (j < i))) := rfl
theorem o2_ge_int {i j : Int} : op2 .ge (.int i) (.int j) = some (.bl (decide (j ≤ i))) := rfl
theorem o2_min_int {i j : Int} : op2 .min (.int i) (.int j) = some (.int (if j < i then j else i)) := rfl
theorem o2_max_int {i j : Int} : op2 .max (.int i) (.int j) = some (.int (if j > i then j else i)) := rfl
theorem o2_add_str {x y : Str} : op2 .add (.str x) (.str y) = if x.length + y.length ≤ sizeLine then some (.str (x ++ y)) else none := rfl
theorem o2_add_tup {a b : List D} : op2 .add (.tup a) (.tup b) = if a.length + b.length ≤ sizeLine then some (.tup (a ++ b)) else none := rfl
theorem o2_add_lst {a b : List D} : op2 .add (.lst a) (.lst b) = if a.length + b.length ≤ sizeLine then some (.lst (a ++ b)) else none := rfl
theorem o2_mul_lst {l : List D} {k : Int} : op2 .mul (.lst l) (.int k) = if decide (-(2 ^ 63) ≤ k) && (decide (k < 2 ^ 63) && decide (l.length * k.toNat ≤ sizeLine)) then some (.lst (List.replicate k.toNat l).flatten) else none := rfl
theorem o2_eq {a b : D} : op2 .eq a b = (a.eq? b).map .bl := rfl
theorem o2_ne {a b : D} : op2 .ne a b = (a.eq? b).map fun c => .bl (!c) := rfl
theorem o2_in {a b : D} : op2 .in_ a b = (a.in? b).map .bl := rfl
theorem o2_nin {a b : D} : op2 .nin a b = (a.in? b).map fun c => .bl (!c) := rfl
theorem o2_idx_tup {l : List D} {i : Int} : op2 .idx (.tup l) (.int i) = L2.atI l i := rfl
theorem o2_idx_lst {l : List D} {i : Int} : op2 .idx (.lst l) (.int i) = L2.atI l i := rfl
theorem o2_idx_scr {l : List Int} {i : Int} : op2 .idx (.scr l) (.int i) = (L2.atI l i).map .int := rfl
theorem o2_idx_str {x : Str} {i : Int} : op2 .idx (.str x) (.int i) = if x.length ≤ sizeLine then (L2.atI x.cps.toList i).map fun c => .str ⟨#[c]⟩ else none := rfl
theorem o2_count {x y : Str} : op2 .count (.str x) (.str y) = some (.int (Txt.count x y)) := rfl
theorem o2_join {x : Str} {l : List D} : op2 .join (.str x) (.lst l) = (l.mapM D.str?).bind fun ys => if (ys.map (·.length)).sum + ys.length * x.length ≤ 16777216 then some (.str (Txt.join x ys)) else none := rfl
theorem eq_int {i j : Int} : D.eq? (.int i) (.int j) = some (i == j) := rfl
theorem eq_str {i j : Str} : D.eq? (.str i) (.str j) = some (i == j) := rfl
theorem eq_bl {i j : Bool} : D.eq? (.bl i) (.bl j) = some (i == j) := rfl
theorem eq_non_non : D.eq? .non .non = if D.sh .non && D.sh .non then some (D.eqv .non .non) else none := rfl
theorem eq_non_bl {b2 : Bool} : D.eq? .non (.bl b2) = if D.sh .non && D.sh (.bl b2) then some (D.eqv .non (.bl b2)) else none := rfl
theorem eq_non_int {i2 : Int} : D.eq? .non (.int i2) = if D.sh .non && D.sh (.int i2) then some (D.eqv .non (.int i2)) else none := rfl
theorem eq_non_str {x2 : Str} : D.eq? .non (.str x2) = if D.sh .non && D.sh (.str x2) then some (D.eqv .non (.str x2)) else none := rfl
theorem eq_non_tup {l2 : List D} : D.eq? .non (.tup l2) = if D.sh .non && D.sh (.tup l2) then some (D.eqv .non (.tup l2)) else none := rfl
theorem eq_non_lst {l2 : List D} : D.eq? .non (.lst l2) = if D.sh .non && D.sh (.lst l2) then some (D.eqv .non (.lst l2)) else none := rfl
theorem eq_bl_non {b : Bool} : D.eq? (.bl b) .non = if D.sh (.bl b) && D.sh .non then some (D.eqv (.bl b) .non) else none := rfl
theorem eq_bl_int {b : Bool} {i2 : Int} : D.eq? (.bl b) (.int i2) = if D.sh (.bl b) && D.sh (.int i2) then some (D.eqv (.bl b) (.int i2)) else none := rfl
theorem eq_bl_str {b : Bool} {x2 : Str} : D.eq? (.bl b) (.str x2) = if D.sh (.bl b) && D.sh (.str x2) then some (D.eqv (.bl b) (.str x2)) else none := rfl
theorem eq_bl_tup {b : Bool} {l2 : List D} : D.eq? (.bl b) (.tup l2) = if D.sh (.bl b) && D.sh (.tup l2) then some (D.eqv (.bl b) (.tup l2)) else none := rfl
theorem eq_bl_lst {b : Bool} {l2 : List D} : D.eq? (.bl b) (.lst l2) = if D.sh (.bl b) && D.sh (.lst l2) then some (D.eqv (.bl b) (.lst l2)) else none := rfl
theorem eq_int_non {i : Int} : D.eq? (.int i) .non = if D.sh (.int i) && D.sh .non then some (D.eqv (.int i) .non) else none := rfl
theorem eq_int_bl {i : Int} {b2 : Bool} : D.eq? (.int i) (.bl b2) = if D.sh (.int i) && D.sh (.bl b2) then some (D.eqv (.int i) (.bl b2)) else none := rfl
theorem eq_int_str {i : Int} {x2 : Str} : D.eq? (.int i) (.str x2) = if D.sh (.int i) && D.sh (.str x2) then some (D.eqv (.int i) (.str x2)) else none := rfl
theorem eq_int_tup {i : Int} {l2 : List D} : D.eq? (.int i) (.tup l2) = if D.sh (.int i) && D.sh (.tup l2) then some (D.eqv (.int i) (.tup l2)) else none := rfl
theorem eq_int_lst {i : Int} {l2 : List D} : D.eq? (.int i) (.lst l2) = if D.sh (.int i) && D.sh (.lst l2) then some (D.eqv (.int i) (.lst l2)) else none := rfl
theorem eq_str_non {x : Str} : D.eq? (.str x) .non = if D.sh (.str x) && D.sh .non then some (D.eqv (.str x) .non) else none := rfl
theorem eq_str_bl {x : Str} {b2 : Bool} : D.eq? (.str x) (.bl b2) = if D.sh (.str x) && D.sh (.bl b2) then some (D.eqv (.str x) (.bl b2)) else none := rfl
theorem eq_str_int {x : Str} {i2 : Int} : D.eq? (.str x) (.int i2) = if D.sh (.str x) && D.sh (.int i2) then some (D.eqv (.str x) (.int i2)) else none := rfl
theorem eq_str_tup {x : Str} {l2 : List D} : D.eq? (.str x) (.tup l2) = if D.sh (.str x) && D.sh (.tup l2) then some (D.eqv (.str x) (.tup l2)) else none := rfl
theorem eq_str_lst {x : Str} {l2 : List D} : D.eq? (.str x) (.lst l2) = if D.sh (.str x) && D.sh (.lst l2) then some (D.eqv (.str x) (.lst l2)) else none := rfl
theorem eq_tup_non {l : List D} : D.eq? (.tup l) .non = if D.sh (.tup l) && D.sh .non then some (D.eqv (.tup l) .non) else none := rfl
theorem eq_tup_bl {l : List D} {b2 : Bool} : D.eq? (.tup l) (.bl b2) = if D.sh (.tup l) && D.sh (.bl b2) then some (D.eqv (.tup l) (.bl b2)) else none := rfl
theorem eq_tup_int {l : List D} {i2 : Int} : D.eq? (.tup l) (.int i2) = if D.sh (.tup l) && D.sh (.int i2) then some (D.eqv (.tup l) (.int i2)) else none := rfl
theorem eq_tup_str {l : List D} {x2 : Str} : D.eq? (.tup l) (.str x2) = if D.sh (.tup l) && D.sh (.str x2) then some (D.eqv (.tup l) (.str x2)) else none := rfl
theorem eq_tup_tup {l : List D} {l2 : List D} : D.eq? (.tup l) (.tup l2) = if D.sh (.tup l) && D.sh (.tup l2) then some (D.eqv (.tup l) (.tup l2)) else none := rfl
theorem eq_tup_lst {l : List D} {l2 : List D} : D.eq? (.tup l) (.lst l2) = if D.sh (.tup l) && D.sh (.lst l2) then some (D.eqv (.tup l) (.lst l2)) else none := rfl
theorem eq_lst_non {l : List D} : D.eq? (.lst l) .non = if D.sh (.lst l) && D.sh .non then some (D.eqv (.lst l) .non) else none := rfl
theorem eq_lst_bl {l : List D} {b2 : Bool} : D.eq? (.lst l) (.bl b2) = if D.sh (.lst l) && D.sh (.bl b2) then some (D.eqv (.lst l) (.bl b2)) else none := rfl
theorem eq_lst_int {l : List D} {i2 : Int} : D.eq? (.lst l) (.int i2) = if D.sh (.lst l) && D.sh (.int i2) then some (D.eqv (.lst l) (.int i2)) else none := rfl
theorem eq_lst_str {l : List D} {x2 : Str} : D.eq? (.lst l) (.str x2) = if D.sh (.lst l) && D.sh (.str x2) then some (D.eqv (.lst l) (.str x2)) else none := rfl
theorem eq_lst_tup {l : List D} {l2 : List D} : D.eq? (.lst l) (.tup l2) = if D.sh (.lst l) && D.sh (.tup l2) then some (D.eqv (.lst l) (.tup l2)) else none := rfl
theorem eq_lst_lst {l : List D} {l2 : List D} : D.eq? (.lst l) (.lst l2) = if D.sh (.lst l) && D.sh (.lst l2) then some (D.eqv (.lst l) (.lst l2)) else none := rfl
theorem tr_non : D.truth .non = some false := rfl
theorem tr_bl {b : Bool} : D.truth (.bl b) = some b := rfl
theorem tr_int {i : Int} : D.truth (.int i) = some (i != 0) := rfl
theorem tr_str {x : Str} : D.truth (.str x) = if x.length ≤ sizeLine then some ((x.length : Int) != 0) else none := rfl
theorem tr_tup {l : List D} : D.truth (.tup l) = some (!l.isEmpty) := rfl
theorem tr_lst {l : List D} : D.truth (.lst l) = some (!l.isEmpty) := rfl
theorem ty_int_non : D.isTy .int .non = some false := rfl
theorem ty_int_bl {b : Bool} : D.isTy .int (.bl b) = some true := rfl
theorem ty_int_int {i : Int} : D.isTy .int (.int i) = some true := rfl
theorem ty_int_str {x : Str} : D.isTy .int (.str x) = some false := rfl
theorem ty_int_tup {l : List D} : D.isTy .int (.tup l) = some false := rfl
theorem ty_int_lst {l : List D} : D.isTy .int (.lst l) = some false := rfl
theorem ty_bool_non : D.isTy .bool .non = some false := rfl
theorem ty_bool_bl {b : Bool} : D.isTy .bool (.bl b) = some true := rfl
theorem ty_bool_int {i : Int} : D.isTy .bool (.int i) = some false := rfl
theorem ty_bool_str {x : Str} : D.isTy .bool (.str x) = some false := rfl
theorem ty_bool_tup {l : List D} : D.isTy .bool (.tup l) = some false := rfl
theorem ty_bool_lst {l : List D} : D.isTy .bool (.lst l) = some false := rfl
theorem ty_str_non : D.isTy .str .non = some false := rfl
theorem ty_str_bl {b : Bool} : D.isTy .str (.bl b) = some false := rfl
theorem ty_str_int {i : Int} : D.isTy .str (.int i) = some false := rfl
theorem ty_str_str {x : Str} : D.isTy .str (.str x) = some true := rfl
theorem ty_str_tup {l : List D} : D.isTy .str (.tup l) = some false := rfl
theorem ty_str_lst {l : List D} : D.isTy .str (.lst l) = some false := rfl
theorem ty_tuple_non : D.isTy .tuple .non = some false := rfl
theorem ty_tuple_bl {b : Bool} : D.isTy .tuple (.bl b) = some false := rfl
theorem ty_tuple_int {i : Int} : D.isTy .tuple (.int i) = some false := rfl
theorem ty_tuple_str {x : Str} : D.isTy .tuple (.str x) = some false := rfl
theorem ty_tuple_tup {l : List D} : D.isTy .tuple (.tup l) = some true := rfl
theorem ty_tuple_lst {l : List D} : D.isTy .tuple (.lst l) = some false := rfl
theorem ty_list_non : D.isTy .list .non = some false := rfl
theorem ty_list_bl {b : Bool} : D.isTy .list (.bl b) = some false := rfl
theorem ty_list_int {i : Int} : D.isTy .list (.int i) = some false := rfl
theorem ty_list_str {x : Str} : D.isTy .list (.str x) = some false := rfl
theorem ty_list_tup {l : List D} : D.isTy .list (.tup l) = some false := rfl
theorem ty_list_lst {l : List D} : D.isTy .list (.lst l) = some true := rfl
theorem o1_neg {i : Int} : op1 .neg (.int i) = some (.int (-i)) := rfl
theorem o1_not {d : D} : op1 .not d = d.truth.map fun b => .bl (!b) := rfl
theorem o1_len_str {x : Str} : op1 .len (.str x) = if x.length ≤ sizeLine then some (.int x.length) else none := rfl
theorem o1_len_tup {l : List D} : op1 .len (.tup l) = some (.int l.length) := rfl
theorem o1_len_lst {l : List D} : op1 .len (.lst l) = some (.int l.length) := rfl
theorem o1_len_scr {l : List Int} : op1 .len (.scr l) = some (.int l.length) := rfl
theorem o1_tuple_lst {l : List D} : op1 .tuple (.lst l) = some (.tup l) := rfl
theorem o1_tuple_tup {l : List D} : op1 .tuple (.tup l) = some (.tup l) := rfl
theorem o1_list_lst {l : List D} : op1 .list (.lst l) = some (.lst l) := rfl
theorem o1_list_tup {l : List D} : op1 .list (.tup l) = some (.lst l) := rfl
theorem o1_all {l : List D} : op1 .all (.lst l) = (l.mapM D.bool?).map fun bs => .bl (bs.all id) := rfl
theorem o1_any {l : List D} : op1 .any (.lst l) = (l.mapM D.bool?).map fun bs => .bl (bs.any id) := rfl
theorem o1_sum {l : List D} : op1 .sum (.lst l) = (l.mapM D.int?).map fun ns => .int ns.sum := rfl
theorem o1_int_int {i : Int} : op1 .int (.int i) = some (.int i) := rfl
theorem o1_int_bl {b : Bool} : op1 .int (.bl b) = some (.int (if b then 1 else 0)) := rfl
theorem o1_int_str {x : Str} : op1 .int (.str x) = if x.length ≤ 640 then (intText? x).map fun n => .int n else none := rfl
theorem o1_str_int {i : Int} : op1 .str (.int i) = if i.natAbs.log2 < 1920 then some (.str (Str.ofString (toString i))) else none := rfl
theorem o1_str_str {x : Str} : op1 .str (.str x) = some (.str x) := rfl
theorem o1_repr_int {i : Int} : op1 .repr (.int i) = if i.natAbs.log2 < 1920 then some (.str (Str.ofString (toString i))) else none := rfl
theorem o1_repr_bl {b : Bool} : op1 .repr (.bl b) = some (.str (if b then "True" else "False")) := rfl
theorem o1_abs {i : Int} : op1 .abs (.int i) = some (.int (if i < 0 then -i else i)) := rfl
theorem o1_isi {t : Ty} {d : D} : op1 (.isi t) d = (d.isTy t).map .bl := rfl
theorem o1_isB {b a : Bool} : op1 (.isB b) (.bl a) = some (.bl (decide (a = b))) := rfl
theorem o1_notB {b a : Bool} : op1 (.notB b) (.bl a) = some (.bl (!decide (a = b))) := rfl
theorem o1_bits {i : Int} : op1 .bitlen (.int i) = some (.int (if i = 0 then 0 else (i.natAbs.log2 + 1 : Nat))) := rfl
theorem o1_rev {l : List D} : op1 .rev (.lst l) = some (.lst l.reverse) := rfl
theorem o1_isN_non : op1 .isN .non = some (.bl true) := rfl
theorem o1_notN_non : op1 .notN .non = some (.bl false) := rfl
theorem o1_isN_bl {b : Bool} : op1 .isN (.bl b) = some (.bl false) := rfl
theorem o1_notN_bl {b : Bool} : op1 .notN (.bl b) = some (.bl true) := rfl
theorem o1_isN_int {i : Int} : op1 .isN (.int i) = some (.bl false) := rfl
theorem o1_notN_int {i : Int} : op1 .notN (.int i) = some (.bl true) := rfl
theorem o1_isN_str {x : Str} : op1 .isN (.str x) = some (.bl false) := rfl
theorem o1_notN_str {x : Str} : op1 .notN (.str x) = some (.bl true) := rfl
theorem o1_isN_tup {l : List D} : op1 .isN (.tup l) = some (.bl false) := rfl
theorem o1_notN_tup {l : List D} : op1 .notN (.tup l) = some (.bl true) := rfl
theorem o1_isN_lst {l : List D} : op1 .isN (.lst l) = some (.bl false) := rfl
theorem o1_notN_lst {l : List D} : op1 .notN (.lst l) = some (.bl true) := rfl
theorem o1_isN_ref {r : Nat} : op1 .isN (.ref r) = some (.bl false) := rfl
theorem o1_notN_ref {r : Nat} : op1 .notN (.ref r) = some (.bl true) := rfl
theorem o1_isN_scr {l : List Int} : op1 .isN (.scr l) = some (.bl false) := rfl
theorem o1_notN_scr {l : List Int} : op1 .notN (.scr l) = some (.bl true) := rfl
theorem sl_tup {l : List D} {a b : Option Int} : sl3 (.tup l) a b = some (.tup (cut l a b)) := rfl
theorem sl_lst {l : List D} {a b : Option Int} : sl3 (.lst l) a b = some (.lst (cut l a b)) := rfl
theorem sl_str {x : Str} {a b : Option Int} : sl3 (.str x) a b = if x.length ≤ sizeLine then some (.str (L2.cutS x a b)) else none := rfl
theorem ao_int {o : Op2} {i j : Int} : aop o (.int i) (.int j) = op2 o (.int i) (.int j) := rfl
theorem ao_str {o : Op2} {i j : Str} : aop o (.str i) (.str j) = op2 o (.str i) (.str j) := rfl
theorem it_tup {l : List D} : D.items (.tup l) = some l := rfl
theorem it_lst {l : List D} : D.items (.lst l) = some l := rfl
theorem it_str {x : Str} : D.items (.str x) = if x.length ≤ sizeLine then some (x.cps.toList.map fun c => .str ⟨#[c]⟩) else none := rfl
theorem bg_nm {i : Nat} {d : D} {s : Sl} : bindG (.nm i) d s = some (s.set i (.val d)) := rfl
theorem bg_tup {gs : MGs} {ds : List D} {s : Sl} : bindG (.tup gs) (.tup ds) s = bindGs gs ds s := rfl
theorem bg_lst {gs : MGs} {ds : List D} {s : Sl} : bindG (.tup gs) (.lst ds) s = bindGs gs ds s := rfl
theorem bg_nil {s : Sl} : bindGs .nil [] s = some s := rfl
theorem bg_cons {g : MG} {gs : MGs} {d : D} {ds : List D} {s : Sl} : bindGs (.cons g gs) (d :: ds) s = (bindG g d s).bind fun s => bindGs gs ds s := rfl
theorem rc_add {d : D} : Op2.rcv .add d = true := rfl
theorem rc_sub {d : D} : Op2.rcv .sub d = true := rfl
theorem rc_mul {d : D} : Op2.rcv .mul d = true := rfl
theorem rc_fdiv {d : D} : Op2.rcv .fdiv d = true := rfl
theorem rc_mod {d : D} : Op2.rcv .mod d = true := rfl
theorem rc_pow {d : D} : Op2.rcv .pow d = true := rfl
theorem rc_band {d : D} : Op2.rcv .band d = true := rfl
theorem rc_bor {d : D} : Op2.rcv .bor d = true := rfl
theorem rc_bxor {d : D} : Op2.rcv .bxor d = true := rfl
theorem rc_shl {d : D} : Op2.rcv .shl d = true := rfl
theorem rc_shr {d : D} : Op2.rcv .shr d = true := rfl
theorem rc_eq {d : D} : Op2.rcv .eq d = true := rfl
theorem rc_ne {d : D} : Op2.rcv .ne d = true := rfl
theorem rc_lt {d : D} : Op2.rcv .lt d = true := rfl
theorem rc_le {d : D} : Op2.rcv .le d = true := rfl
theorem rc_gt {d : D} : Op2.rcv .gt d = true := rfl
theorem rc_ge {d : D} : Op2.rcv .ge d = true := rfl
theorem rc_in {d : D} : Op2.rcv .in_ d = true := rfl
theorem rc_nin {d : D} : Op2.rcv .nin d = true := rfl
theorem rc_idx {d : D} : Op2.rcv .idx d = true := rfl
theorem rc_min {d : D} : Op2.rcv .min d = true := rfl
theorem rc_max {d : D} : Op2.rcv .max d = true := rfl
theorem rc_count {x : Str} : Op2.rcv .count (.str x) = true := rfl
theorem rc_join {x : Str} : Op2.rcv .join (.str x) = true := rfl
theorem wi_nil {s : Sl} : wipeS s [] = s := rfl
theorem wi_cons {s : Sl} {v : Nat} {vs : List Nat} : wipeS s (v :: vs) = (wipeS s vs).set v .no := rfl
theorem sm_nil {s : Sl} {M : MH} : sameA s M [] = true := rfl
theorem sb_non {s : Sl} {M : MH} {d : D} : sameB s M .non d = true := rfl
theorem sb_bl {s : Sl} {M : MH} {d : D} {b : Bool} : sameB s M (.bl b) d = true := rfl
theorem sb_int {s : Sl} {M : MH} {d : D} {i : Int} : sameB s M (.int i) d = true := rfl
theorem sb_str {s : Sl} {M : MH} {d : D} {x : Str} : sameB s M (.str x) d = true := rfl
theorem sb_tup {s : Sl} {M : MH} {d : D} {l : List D} : sameB s M (.tup l) d = true := rfl
theorem sb_lst {s : Sl} {M : MH} {d : D} {l : List D} : sameB s M (.lst l) d = true := rfl
theorem sb_ref {s : Sl} {M : MH} {d : D} {r : Nat} : sameB s M (.ref r) d = decide (rs s M (.ref r) = d) := rfl
theorem sb_own {s : Sl} {M : MH} {d : D} {i : Nat} : sameB s M (.own i) d = decide (rs s M (.own i) = d) := rfl
theorem no_nil : noOwn [] = true := rfl
theorem sm_cons {s : Sl} {M : MH} {x : D} {l : List D} {ps : List (D × List D)} : sameA s M ((x, l) :: ps) = (sameB s M x (.lst l) && sameA s M ps) := rfl
theorem no_cons {x : D} {l : List D} {ps : List (D × List D)} : noOwn ((x, l) :: ps) = (!x.isOwn && noOwn ps) := rfl
theorem rs_ref {s : Sl} {M : MH} {r : Nat} {l : List D} (h : M[r]? = some (.lst l)) : rs s M (.ref r) = .lst l := by
  show (match M[r]? with
    | some (.lst l) => D.lst l
    | _ => D.ref r) = _
  rw [h]
theorem rs_ow {s : Sl} {M : MH} {i : Nat} : rs s M (.own i) = (match s[i]? with
    | some (.own l) => .lst l
    | _ => .own i) := rfl
theorem rs_own {s : Sl} {M : MH} {i : Nat} {l : List D} (h : s[i]? = some (.own l)) : rs s M (.own i) = .lst l := by
  show (match s[i]? with
    | some (.own l) => D.lst l
    | _ => D.own i) = _
  rw [h]
end MP

set_option Elab.async false
set_option linter.all false
set_option maxRecDepth 100000
set_option maxHeartbeats 2000000
set_option autoImplicit false
/-! MP, part x: equality of values -/
namespace MP
open PySem
theorem canLay_all {l : List D} (h : ∀ d ∈ l, d.py.canLay0 = true) : PyData.canLayAll0 (D.pys l) = true := by
  induction l with
  | nil => simp [D.pys, PyData.canLayAll0]
  | cons d l ih =>
    simp only [D.pys, PyData.canLayAll0, Bool.and_eq_true]
    exact ⟨h d List.mem_cons_self, ih fun e he => h e (List.mem_cons_of_mem _ he)⟩
theorem depth_all {l : List D} {k : Nat} (h : ∀ d ∈ l, d.py.depth ≤ k) : PyData.depthAll (D.pys l) ≤ k := by
  induction l with
  | nil => simp [D.pys, PyData.depthAll]
  | cons d l ih =>
    simp only [D.pys, PyData.depthAll]
    have h1 := h d List.mem_cons_self
    have h2 := ih fun e he => h e (List.mem_cons_of_mem _ he)
    omega
theorem sh_of {d : D} (h1 : d.py.canLay0 = true) (h2 : d.py.depth ≤ 64) : d.sh = true := by
  show (d.py.canLay0 && decide (d.py.depth ≤ 64)) = true
  rw [h1, decide_eq_true h2]; rfl
theorem sh_tup {l : List D} (h : ∀ d ∈ l, d.py.canLay0 = true) (h2 : ∀ d ∈ l, d.py.depth ≤ 63) : (D.tup l).sh = true := by
  refine sh_of ?_ ?_
  · simpa only [D.py, PyData.canLay0] using canLay_all h
  · have := depth_all h2
    simp only [D.py, PyData.depth]
    omega
theorem sh_lst {l : List D} (h : ∀ d ∈ l, d.py.canLay0 = true) (h2 : ∀ d ∈ l, d.py.depth ≤ 63) : (D.lst l).sh = true := by
  refine sh_of ?_ ?_
  · simpa only [D.py, PyData.canLay0] using canLay_all h
  · have := depth_all h2
    simp only [D.py, PyData.depth]
    omega
theorem sh_ints (l : List Int) : (D.tup (l.map .int)).sh = true := sh_tup (fun d hd => by
  obtain ⟨i, _, rfl⟩ := List.mem_map.mp hd
  simp [D.py, PyData.canLay0]) fun d hd => by
  obtain ⟨i, _, rfl⟩ := List.mem_map.mp hd
  simp [D.py, PyData.depth]
theorem eqv_self {d : D} (h : d.sh = true) : d.eqv d = true := SeqAt.eqv_refl _ (sh_lay h)
theorem eq_self {d : D} (h : d.sh = true) : d.eq? d = some true := by
  have g : d.eqv d = true := SeqAt.eqv_refl _ (sh_lay h)
  cases d <;> first | (simp [D.eq?]; done) | skip
  all_goals
    simp only [D.eq?, h, Bool.and_self, if_true, g]
end MP

set_option Elab.async false
set_option linter.all false
set_option maxRecDepth 100000
set_option maxHeartbeats 0
/-! the law's program as mini functions (printed by gen.py) -/
namespace MPL
open PySem MP
def top (i : Nat) : Stmt := PySem.Challenge.pw_latemoves_k01_numbers.main.body.getD i (.Pass ⟨0, 0, 0, 0⟩)
def b_is_integer : MSs :=
  (.cons (.ret (.and (.cons (.op1 (.isi .int) (.var 0)) (.cons (.op1 .not (.op1 (.isi .bool) (.var 0))) (.cons (.chain .le .le (.var 1) (.var 0) (.var 2)) .nil))))) .nil)
def f_is_integer : MF := ⟨3, ["value", "low", "high"], b_is_integer⟩
def b_is_number : MSs :=
  (.cons (.ret (.call 0 (.cons (.var 0) (.cons (.glob 0) (.cons (.glob 1) .nil))))) .nil)
def f_is_number : MF := ⟨1, ["value"], b_is_number⟩
def b_is_bytes : MSs :=
  (.cons (.ret (.and (.cons (.op1 (.isi .tuple) (.var 0)) (.cons (.op1 .all (.comp [1] (.nm 1) (.seq (.var 0)) .yes (.call 0 (.cons (.var 1) (.cons (.cst (.int 0)) (.cons (.cst (.int 255)) .nil)))))) .nil)))) .nil)
def f_is_bytes : MF := ⟨1, ["value", "byte"], b_is_bytes⟩
def b_wrap : MSs :=
  (.cons (.ret (.op2 .add (.op2 .mod (.op2 .sub (.var 0) (.glob 0)) (.glob 2)) (.glob 0))) .nil)
def f_wrap : MF := ⟨1, ["n"], b_wrap⟩
def b_clip : MSs :=
  (.cons (.iff (.e (.op2 .lt (.var 0) (.var 1))) (.cons (.ret (.var 1)) .nil) .nil) (.cons (.iff (.e (.op2 .gt (.var 0) (.var 2))) (.cons (.ret (.var 2)) .nil) .nil) (.cons (.ret (.var 0)) .nil)))
def f_clip : MF := ⟨3, ["n", "low", "high"], b_clip⟩
def b_bytes_of : MSs :=
  (.cons (.setO 2 (.disp .nil)) (.cons (.for (.nm 3) (.rng1 (.var 1)) (.cons (.app 2 (.op2 .mod (.var 0) (.cst (.int 256)))) (.cons (.aug .fdiv 0 (.cst (.int 256))) .nil))) (.cons (.ret (.op1 .tuple (.op1 .rev (.bor 2)))) .nil)))
def f_bytes_of : MF := ⟨2, ["n", "many", "found", "_"], b_bytes_of⟩
def b_number_of : MSs :=
  (.cons (.set 1 (.cst (.int 0))) (.cons (.for (.nm 2) (.seq (.var 0)) (.cons (.set 1 (.op2 .add (.op2 .mul (.var 1) (.cst (.int 256))) (.var 2))) .nil)) (.cons (.ret (.var 1)) .nil)))
def f_number_of : MF := ⟨1, ["row", "n", "byte"], b_number_of⟩
def b_law_bag : MSs :=
  (.cons (.set 2 (.cst (.int 0))) (.cons (.iff (.e (.op2 .lt (.var 1) (.op1 .len (.var 0)))) (.cons (.set 2 (.op1 .int (.op2 .idx (.var 0) (.var 1)))) .nil) .nil) (.cons (.ret (.hp (.disp (.cons (.cst (.int 0)) (.cons (.op2 .add (.cst (.int 31)) (.op2 .mul (.cst (.int 48611)) (.var 1))) (.cons (.cst (.int 0)) (.cons (.var 2) .nil))))))) .nil)))
def f_law_bag : MF := ⟨2, ["script", "k", "cell"], b_law_bag⟩
def b_law_draw : MSs :=
  (.cons (.iff (.e (.op2 .lt (.var 1) (.cst (.int 1)))) (.cons (.ret (.cst (.int 0))) .nil) .nil) (.cons (.iff (.e (.op2 .eq (.op2 .idx (.var 0) (.cst (.int 0))) (.cst (.int 0)))) (.cons (.sat (.var 0) (.cst (.int 2)) (.op2 .add (.op2 .idx (.var 0) (.cst (.int 2))) (.cst (.int 1)))) (.cons (.set 3 (.op2 .mod (.op1 .int (.op2 .add (.op2 .add (.op2 .add (.op2 .mul (.op2 .idx (.var 0) (.cst (.int 1))) (.cst (.int 48271))) (.op2 .mul (.op2 .idx (.var 0) (.cst (.int 3))) (.cst (.int 69621)))) (.op2 .mul (.op2 .idx (.var 0) (.cst (.int 2))) (.cst (.int 16807)))) (.cst (.int 11)))) (.cst (.int 2147483647)))) (.cons (.sat (.var 0) (.cst (.int 0)) (.op2 .add (.op2 .mul (.var 3) (.cst (.int 2147483629))) (.op2 .mod (.op1 .int (.op2 .add (.op2 .mul (.var 3) (.var 3)) (.op2 .idx (.var 0) (.cst (.int 3))))) (.cst (.int 2147483629))))) (.cons (.iff (.and (.cons (.e (.op2 .eq (.op2 .idx (.var 0) (.cst (.int 2))) (.cst (.int 1)))) (.cons (.e (.op2 .ge (.op2 .idx (.var 0) (.cst (.int 3))) (.op2 .pow (.cst (.int 10)) (.cst (.int 18))))) .nil))) (.cons (.sat (.var 0) (.cst (.int 0)) (.op2 .idx (.var 0) (.cst (.int 3)))) .nil) .nil) (.cons (.sat (.var 0) (.cst (.int 1)) (.var 3)) .nil))))) .nil) (.cons (.set 2 (.op2 .idx (.var 0) (.cst (.int 0)))) (.cons (.sat (.var 0) (.cst (.int 0)) (.op2 .fdiv (.var 2) (.var 1))) (.cons (.ret (.op2 .mod (.op1 .int (.var 2)) (.var 1))) .nil)))))
def f_law_draw : MF := ⟨2, ["bag", "many", "rest", "seed"], b_law_draw⟩
def b_law_one : MSs :=
  (.cons (.ret (.op2 .idx (.var 1) (.call 8 (.cons (.var 0) (.cons (.op1 .len (.var 1)) .nil))))) .nil)
def f_law_one : MF := ⟨2, ["bag", "row"], b_law_one⟩
def b_law_integer : MSs :=
  (.cons (.set 1 (.call 9 (.cons (.var 0) (.cons (.disp (.cons (.cst (.int 0)) (.cons (.cst (.int 2147483647)) (.cons (.op1 .neg (.cst (.int 2147483648))) (.cons (.cst (.int 4294967296)) (.cons (.op2 .pow (.cst (.int 10)) (.cst (.int 20))) (.cons (.op1 .neg (.op2 .pow (.cst (.int 10)) (.cst (.int 25)))) (.cons (.cst (.int 255)) (.cons (.cst (.int 256)) .nil))))))))) .nil)))) (.cons (.ret (.op2 .add (.var 1) (.call 9 (.cons (.var 0) (.cons (.disp (.cons (.cst (.int 0)) (.cons (.cst (.int 1)) (.cons (.op1 .neg (.cst (.int 1))) (.cons (.call 8 (.cons (.var 0) (.cons (.op2 .pow (.cst (.int 10)) (.cst (.int 9))) .nil))) .nil))))) .nil))))) .nil))
def f_law_integer : MF := ⟨1, ["bag", "base"], b_law_integer⟩
def b_law : MSs :=
  (.cons (.for (.nm 1) (.rng1 (.op2 .max (.cst (.int 1)) (.op2 .min (.cst (.int 30)) (.op1 .len (.var 0))))) (.cons (.set 2 (.call 7 (.cons (.var 0) (.cons (.var 1) .nil)))) (.cons (.set 3 (.call 10 (.cons (.var 2) .nil))) (.cons (.set 4 (.call 3 (.cons (.var 3) .nil))) (.cons (.iff (.or (.cons (.not (.e (.op1 (.isi .int) (.var 4)))) (.cons (.e (.op2 .lt (.var 4) (.op1 .neg (.cst (.int 2147483648))))) (.cons (.e (.op2 .gt (.var 4) (.cst (.int 2147483647)))) (.cons (.e (.op2 .ne (.op2 .mod (.op1 .int (.op2 .sub (.var 4) (.var 3))) (.cst (.int 4294967296))) (.cst (.int 0)))) .nil))))) (.cons (.ret (.cst (.bl false))) .nil) .nil) (.cons (.set 5 (.call 10 (.cons (.var 2) .nil))) (.cons (.set 6 (.op2 .add (.var 5) (.call 9 (.cons (.var 2) (.cons (.disp (.cons (.cst (.int 0)) (.cons (.cst (.int 1)) (.cons (.call 8 (.cons (.var 2) (.cons (.op2 .pow (.cst (.int 10)) (.cst (.int 6))) .nil))) .nil)))) .nil))))) (.cons (.iff (.e (.op2 .ne (.call 4 (.cons (.var 3) (.cons (.var 5) (.cons (.var 6) .nil)))) (.ite (.e (.op2 .lt (.var 3) (.var 5))) (.var 5) (.ite (.e (.op2 .gt (.var 3) (.var 6))) (.var 6) (.var 3))))) (.cons (.ret (.cst (.bl false))) .nil) .nil) (.cons (.iff (.e (.op2 .ne (.op1 .repr (.call 0 (.cons (.var 3) (.cons (.var 5) (.cons (.var 6) .nil))))) (.op1 .repr (.and (.cons (.op2 .le (.var 5) (.var 3)) (.cons (.op2 .le (.var 3) (.var 6)) .nil)))))) (.cons (.ret (.cst (.bl false))) .nil) .nil) (.cons (.iff (.e (.op2 .ne (.op1 .repr (.call 1 (.cons (.var 3) .nil))) (.op1 .repr (.and (.cons (.op2 .le (.op1 .neg (.cst (.int 2147483648))) (.var 3)) (.cons (.op2 .le (.var 3) (.cst (.int 2147483647))) .nil)))))) (.cons (.ret (.cst (.bl false))) .nil) .nil) (.cons (.for (.nm 7) (.seq (.disp (.cons (.cst (.bl true)) (.cons (.cst .non) (.cons (.cst (.str "1")) (.cons (.tup (.cons (.cst (.int 1)) .nil)) (.cons (.disp (.cons (.cst (.int 1)) .nil)) .nil))))))) (.cons (.iff (.or (.cons (.e (.op1 (.notB false) (.call 0 (.cons (.var 7) (.cons (.op1 .neg (.cst (.int 5))) (.cons (.cst (.int 5)) .nil)))))) (.cons (.e (.op1 (.notB false) (.call 1 (.cons (.var 7) .nil)))) .nil))) (.cons (.ret (.cst (.bl false))) .nil) .nil) .nil)) (.cons (.set 8 (.comp [12] (.nm 12) (.rng1 (.call 8 (.cons (.var 2) (.cons (.cst (.int 20)) .nil)))) .yes (.call 8 (.cons (.var 2) (.cons (.cst (.int 256)) .nil))))) (.cons (.set 9 (.cst (.int 0))) (.cons (.for (.nm 10) (.seq (.var 8)) (.cons (.set 9 (.op2 .add (.op2 .mul (.var 9) (.cst (.int 256))) (.var 10))) .nil)) (.cons (.iff (.or (.cons (.e (.op2 .ne (.call 6 (.cons (.op1 .tuple (.var 8)) .nil)) (.var 9))) (.cons (.e (.op2 .ne (.call 5 (.cons (.var 9) (.cons (.op1 .len (.var 8)) .nil))) (.op1 .tuple (.var 8)))) .nil))) (.cons (.ret (.cst (.bl false))) .nil) .nil) (.cons (.iff (.or (.cons (.e (.op2 .ne (.call 5 (.cons (.var 9) (.cons (.op2 .add (.op1 .len (.var 8)) (.cst (.int 2))) .nil))) (.op2 .add (.tup (.cons (.cst (.int 0)) (.cons (.cst (.int 0)) .nil))) (.op1 .tuple (.var 8))))) (.cons (.e (.op1 (.notB true) (.call 2 (.cons (.op1 .tuple (.var 8)) .nil)))) (.cons (.e (.op1 (.notB false) (.call 2 (.cons (.var 8) .nil)))) .nil)))) (.cons (.ret (.cst (.bl false))) .nil) .nil) (.cons (.set 11 (.op2 .add (.op2 .add (.op1 .tuple (.sl (.var 8) .no (.e (.cst (.int 3))))) (.tup (.cons (.call 9 (.cons (.var 2) (.cons (.disp (.cons (.cst (.int 256)) (.cons (.op1 .neg (.cst (.int 1))) (.cons (.cst (.bl true)) (.cons (.cst .non) (.cons (.cst (.str "a")) (.cons (.tup (.cons (.cst (.int 1)) .nil)) .nil))))))) .nil))) .nil))) (.op1 .tuple (.sl (.var 8) (.e (.cst (.int 3))) .no)))) (.cons (.iff (.e (.op1 (.notB false) (.call 2 (.cons (.var 11) .nil)))) (.cons (.ret (.cst (.bl false))) .nil) .nil) .nil)))))))))))))))))) (.cons (.ret (.and (.cons (.op2 .eq (.call 6 (.cons (.tup .nil) .nil)) (.cst (.int 0))) (.cons (.op2 .eq (.call 5 (.cons (.cst (.int 0)) (.cons (.cst (.int 0)) .nil))) (.tup .nil)) (.cons (.op1 (.isB true) (.call 2 (.cons (.tup .nil) .nil))) .nil))))) .nil))
def f_law : MF := ⟨1, ["script", "k", "bag", "n", "told", "low", "high", "odd", "row", "number", "byte", "spoilt", "j"], b_law⟩
def fs : List MF := [f_is_integer, f_is_number, f_is_bytes, f_wrap, f_clip, f_bytes_of, f_number_of, f_law_bag, f_law_draw, f_law_one, f_law_integer, f_law]
def dd : List He.DefD := [mkD "is_integer" (top 4), mkD "is_number" (top 5), mkD "is_bytes" (top 6), mkD "wrap" (top 7), mkD "clip" (top 8), mkD "bytes_of" (top 9), mkD "number_of" (top 10), mkD "_law_bag" (top 12), mkD "_law_draw" (top 13), mkD "_law_one" (top 14), mkD "_law_integer" (top 15), mkD "law" (top 16)]
def gl : List (Str × D) := [("LEAST_NUMBER", (.int (-2147483648))), ("MOST_NUMBER", (.int 2147483647)), ("SPAN", (.int 4294967296))]
def fr : List Str := ["all", "bool", "int", "isinstance", "len", "max", "min", "range", "repr", "tuple"]
def E0 : MP.Env := ⟨fun _ _ _ => .bad, gl.map (·.2), fun _ _ => none, fun _ => none, fun _ _ => false, 0⟩
theorem E0_glob : E0.glob = [(.int (-2147483648)), (.int 2147483647), (.int 4294967296)] := rfl
def T0 : Tb := ⟨noNames, fun _ => []⟩
theorem chk : chkFs (mkPg fr dd fs gl [] []) dd fs = true := by kernel_rfl
abbrev RR : PySem.W.OpenRow := PySem.W.OpenLaw.row PySem.Challenge.rw_latemoves_k01_numbers
abbrev hk : PySem.W.Hook := hookM 4 (mkFa fr dd) dd gl
def ob (s : PySem.W.SharedT) : He.AlD := obsMG 4 (mkFa fr dd) dd gl (HandSHeadRun.getT s)
theorem ob_eq (s : PySem.W.SharedT) : ob s = hk.obs s.abs := obsMG_eq (HandSHeadRun.getT_eq s)
def lo : List Str := ["LEAST_NUMBER", "MOST_NUMBER", "SPAN", "__name__", "_law_bag", "_law_draw", "_law_integer", "_law_one", "bytes_of", "clip", "is_bytes", "is_integer", "is_number", "number_of", "wrap"]
theorem run (w : World) : HandSHeadRun.RunEq RR (PySem.W.view RR.prog [16]) hk ob 4000 lo w := by
  intro os
  kernel_rfl
end MPL

set_option Elab.async false
set_option linter.all false
set_option maxRecDepth 100000
set_option maxHeartbeats 1000000
open MP PySem
namespace MPL
def isInt (v : D) (lo hi : Int) : Bool := match v with
  | .int i => decide (lo ≤ i) && decide (i ≤ hi)
  | _ => false
def plain : D → Bool
  | .ref _ => false
  | .own _ => false
  | .scr _ => false
  | _ => true
theorem is_integer_eq (n : Nat) (v : D) (hv : plain v = true) (lo hi : Int) (M : MH) (Q E) : wp (callN fs E0 (n + 1) 0 [v, .int lo, .int hi] M) Q E = Q (.bl (isInt v lo hi)) M := by
  rw [wp_call (F := f_is_integer) rfl rfl]
  cases v with
  | int i =>
    by_cases h : lo ≤ i
    · simp only [f_is_integer, b_is_integer]; simp [wp_seq, exs, wp_nil, wp_ok, wp_bad, wp_exc, wp_bind, wp_sb, wp_opt_some, wp_opt_none, wp_opt_ite, wp_opt_bind, wp_opt_map, wp_ite, wp_calm, ex, evE, evEs, evB, evAnd, evOr, evT, evAll, evAny, evI, enter, fin1_rt, fin1_nx, fin1_xc, nx1_nx, nx1_rt, nx1_bk, nx1_ct, nx1_xc, mulOk, rngOk, D.isOwn, rs_non, rs_bl, rs_int, rs_str, rs_tup, rs_lst, rs_scr, rs_ow, o2_add_int, o2_sub_int, o2_mul_int, o2_fdiv_int, o2_mod_int, o2_pow_int, o2_band_int, o2_bor_int, o2_bxor_int, o2_shl_int, o2_shr_int, o2_lt_int, o2_le_int, o2_gt_int, o2_ge_int, o2_min_int, o2_max_int, o2_add_str, o2_add_tup, o2_add_lst, o2_mul_lst, o2_eq, o2_ne, o2_in, o2_nin, o2_idx_tup, o2_idx_lst, o2_idx_scr, o2_idx_str, o2_count, o2_join, eq_int, eq_str, eq_bl, eq_non_non, eq_non_bl, eq_non_int, eq_non_str, eq_non_tup, eq_non_lst, eq_bl_non, eq_bl_int, eq_bl_str, eq_bl_tup, eq_bl_lst, eq_int_non, eq_int_bl, eq_int_str, eq_int_tup, eq_int_lst, eq_str_non, eq_str_bl, eq_str_int, eq_str_tup, eq_str_lst, eq_tup_non, eq_tup_bl, eq_tup_int, eq_tup_str, eq_tup_tup, eq_tup_lst, eq_lst_non, eq_lst_bl, eq_lst_int, eq_lst_str, eq_lst_tup, eq_lst_lst, tr_non, tr_bl, tr_int, tr_str, tr_tup, tr_lst, ty_int_non, ty_int_bl, ty_int_int, ty_int_str, ty_int_tup, ty_int_lst, ty_bool_non, ty_bool_bl, ty_bool_int, ty_bool_str, ty_bool_tup, ty_bool_lst, ty_str_non, ty_str_bl, ty_str_int, ty_str_str, ty_str_tup, ty_str_lst, ty_tuple_non, ty_tuple_bl, ty_tuple_int, ty_tuple_str, ty_tuple_tup, ty_tuple_lst, ty_list_non, ty_list_bl, ty_list_int, ty_list_str, ty_list_tup, ty_list_lst, o1_neg, o1_not, o1_len_str, o1_len_tup, o1_len_lst, o1_len_scr, o1_tuple_lst, o1_tuple_tup, o1_list_lst, o1_list_tup, o1_all, o1_any, o1_sum, o1_int_int, o1_int_bl, o1_int_str, o1_str_int, o1_str_str, o1_repr_int, o1_repr_bl, o1_abs, o1_isi, o1_isB, o1_notB, o1_bits, o1_rev, o1_isN_non, o1_notN_non, o1_isN_bl, o1_notN_bl, o1_isN_int, o1_notN_int, o1_isN_str, o1_notN_str, o1_isN_tup, o1_notN_tup, o1_isN_lst, o1_notN_lst, o1_isN_ref, o1_notN_ref, o1_isN_scr, o1_notN_scr, sl_tup, sl_lst, sl_str, ao_int, ao_str, it_tup, it_lst, it_str, bg_nm, bg_tup, bg_lst, bg_nil, bg_cons, rc_add, rc_sub, rc_mul, rc_fdiv, rc_mod, rc_pow, rc_band, rc_bor, rc_bxor, rc_shl, rc_shr, rc_eq, rc_ne, rc_lt, rc_le, rc_gt, rc_ge, rc_in, rc_nin, rc_idx, rc_min, rc_max, rc_count, rc_join, wi_nil, wi_cons, sm_nil, sb_non, sb_bl, sb_int, sb_str, sb_tup, sb_lst, sb_ref, sb_own, no_nil, sm_cons, no_cons, h, isInt]
    · simp only [f_is_integer, b_is_integer]; simp [wp_seq, exs, wp_nil, wp_ok, wp_bad, wp_exc, wp_bind, wp_sb, wp_opt_some, wp_opt_none, wp_opt_ite, wp_opt_bind, wp_opt_map, wp_ite, wp_calm, ex, evE, evEs, evB, evAnd, evOr, evT, evAll, evAny, evI, enter, fin1_rt, fin1_nx, fin1_xc, nx1_nx, nx1_rt, nx1_bk, nx1_ct, nx1_xc, mulOk, rngOk, D.isOwn, rs_non, rs_bl, rs_int, rs_str, rs_tup, rs_lst, rs_scr, rs_ow, o2_add_int, o2_sub_int, o2_mul_int, o2_fdiv_int, o2_mod_int, o2_pow_int, o2_band_int, o2_bor_int, o2_bxor_int, o2_shl_int, o2_shr_int, o2_lt_int, o2_le_int, o2_gt_int, o2_ge_int, o2_min_int, o2_max_int, o2_add_str, o2_add_tup, o2_add_lst, o2_mul_lst, o2_eq, o2_ne, o2_in, o2_nin, o2_idx_tup, o2_idx_lst, o2_idx_scr, o2_idx_str, o2_count, o2_join, eq_int, eq_str, eq_bl, eq_non_non, eq_non_bl, eq_non_int, eq_non_str, eq_non_tup, eq_non_lst, eq_bl_non, eq_bl_int, eq_bl_str, eq_bl_tup, eq_bl_lst, eq_int_non, eq_int_bl, eq_int_str, eq_int_tup, eq_int_lst, eq_str_non, eq_str_bl, eq_str_int, eq_str_tup, eq_str_lst, eq_tup_non, eq_tup_bl, eq_tup_int, eq_tup_str, eq_tup_tup, eq_tup_lst, eq_lst_non, eq_lst_bl, eq_lst_int, eq_lst_str, eq_lst_tup, eq_lst_lst, tr_non, tr_bl, tr_int, tr_str, tr_tup, tr_lst, ty_int_non, ty_int_bl, ty_int_int, ty_int_str, ty_int_tup, ty_int_lst, ty_bool_non, ty_bool_bl, ty_bool_int, ty_bool_str, ty_bool_tup, ty_bool_lst, ty_str_non, ty_str_bl, ty_str_int, ty_str_str, ty_str_tup, ty_str_lst, ty_tuple_non, ty_tuple_bl, ty_tuple_int, ty_tuple_str, ty_tuple_tup, ty_tuple_lst, ty_list_non, ty_list_bl, ty_list_int, ty_list_str, ty_list_tup, ty_list_lst, o1_neg, o1_not, o1_len_str, o1_len_tup, o1_len_lst, o1_len_scr, o1_tuple_lst, o1_tuple_tup, o1_list_lst, o1_list_tup, o1_all, o1_any, o1_sum, o1_int_int, o1_int_bl, o1_int_str, o1_str_int, o1_str_str, o1_repr_int, o1_repr_bl, o1_abs, o1_isi, o1_isB, o1_notB, o1_bits, o1_rev, o1_isN_non, o1_notN_non, o1_isN_bl, o1_notN_bl, o1_isN_int, o1_notN_int, o1_isN_str, o1_notN_str, o1_isN_tup, o1_notN_tup, o1_isN_lst, o1_notN_lst, o1_isN_ref, o1_notN_ref, o1_isN_scr, o1_notN_scr, sl_tup, sl_lst, sl_str, ao_int, ao_str, it_tup, it_lst, it_str, bg_nm, bg_tup, bg_lst, bg_nil, bg_cons, rc_add, rc_sub, rc_mul, rc_fdiv, rc_mod, rc_pow, rc_band, rc_bor, rc_bxor, rc_shl, rc_shr, rc_eq, rc_ne, rc_lt, rc_le, rc_gt, rc_ge, rc_in, rc_nin, rc_idx, rc_min, rc_max, rc_count, rc_join, wi_nil, wi_cons, sm_nil, sb_non, sb_bl, sb_int, sb_str, sb_tup, sb_lst, sb_ref, sb_own, no_nil, sm_cons, no_cons, h, isInt]
  | _ => simp [plain] at hv <;> simp only [f_is_integer, b_is_integer] <;> simp [wp_seq, exs, wp_nil, wp_ok, wp_bad, wp_exc, wp_bind, wp_sb, wp_opt_some, wp_opt_none, wp_opt_ite, wp_opt_bind, wp_opt_map, wp_ite, wp_calm, ex, evE, evEs, evB, evAnd, evOr, evT, evAll, evAny, evI, enter, fin1_rt, fin1_nx, fin1_xc, nx1_nx, nx1_rt, nx1_bk, nx1_ct, nx1_xc, mulOk, rngOk, D.isOwn, rs_non, rs_bl, rs_int, rs_str, rs_tup, rs_lst, rs_scr, rs_ow, o2_add_int, o2_sub_int, o2_mul_int, o2_fdiv_int, o2_mod_int, o2_pow_int, o2_band_int, o2_bor_int, o2_bxor_int, o2_shl_int, o2_shr_int, o2_lt_int, o2_le_int, o2_gt_int, o2_ge_int, o2_min_int, o2_max_int, o2_add_str, o2_add_tup, o2_add_lst, o2_mul_lst, o2_eq, o2_ne, o2_in, o2_nin, o2_idx_tup, o2_idx_lst, o2_idx_scr, o2_idx_str, o2_count, o2_join, eq_int, eq_str, eq_bl, eq_non_non, eq_non_bl, eq_non_int, eq_non_str, eq_non_tup, eq_non_lst, eq_bl_non, eq_bl_int, eq_bl_str, eq_bl_tup, eq_bl_lst, eq_int_non, eq_int_bl, eq_int_str, eq_int_tup, eq_int_lst, eq_str_non, eq_str_bl, eq_str_int, eq_str_tup, eq_str_lst, eq_tup_non, eq_tup_bl, eq_tup_int, eq_tup_str, eq_tup_tup, eq_tup_lst, eq_lst_non, eq_lst_bl, eq_lst_int, eq_lst_str, eq_lst_tup, eq_lst_lst, tr_non, tr_bl, tr_int, tr_str, tr_tup, tr_lst, ty_int_non, ty_int_bl, ty_int_int, ty_int_str, ty_int_tup, ty_int_lst, ty_bool_non, ty_bool_bl, ty_bool_int, ty_bool_str, ty_bool_tup, ty_bool_lst, ty_str_non, ty_str_bl, ty_str_int, ty_str_str, ty_str_tup, ty_str_lst, ty_tuple_non, ty_tuple_bl, ty_tuple_int, ty_tuple_str, ty_tuple_tup, ty_tuple_lst, ty_list_non, ty_list_bl, ty_list_int, ty_list_str, ty_list_tup, ty_list_lst, o1_neg, o1_not, o1_len_str, o1_len_tup, o1_len_lst, o1_len_scr, o1_tuple_lst, o1_tuple_tup, o1_list_lst, o1_list_tup, o1_all, o1_any, o1_sum, o1_int_int, o1_int_bl, o1_int_str, o1_str_int, o1_str_str, o1_repr_int, o1_repr_bl, o1_abs, o1_isi, o1_isB, o1_notB, o1_bits, o1_rev, o1_isN_non, o1_notN_non, o1_isN_bl, o1_notN_bl, o1_isN_int, o1_notN_int, o1_isN_str, o1_notN_str, o1_isN_tup, o1_notN_tup, o1_isN_lst, o1_notN_lst, o1_isN_ref, o1_notN_ref, o1_isN_scr, o1_notN_scr, sl_tup, sl_lst, sl_str, ao_int, ao_str, it_tup, it_lst, it_str, bg_nm, bg_tup, bg_lst, bg_nil, bg_cons, rc_add, rc_sub, rc_mul, rc_fdiv, rc_mod, rc_pow, rc_band, rc_bor, rc_bxor, rc_shl, rc_shr, rc_eq, rc_ne, rc_lt, rc_le, rc_gt, rc_ge, rc_in, rc_nin, rc_idx, rc_min, rc_max, rc_count, rc_join, wi_nil, wi_cons, sm_nil, sb_non, sb_bl, sb_int, sb_str, sb_tup, sb_lst, sb_ref, sb_own, no_nil, sm_cons, no_cons, isInt]
theorem is_number_eq (n : Nat) (v : D) (hv : plain v = true) (M : MH) (Q E) : wp (callN fs E0 (n + 2) 1 [v] M) Q E = Q (.bl (isInt v (-2147483648) 2147483647)) M := by
  rw [wp_call (F := f_is_number) rfl rfl]
  simp only [f_is_number, b_is_number]
  simp [wp_seq, exs, wp_nil, wp_ok, wp_bad, wp_exc, wp_bind, wp_sb, wp_opt_some, wp_opt_none, wp_opt_ite, wp_opt_bind, wp_opt_map, wp_ite, wp_calm, ex, evE, evEs, evB, evAnd, evOr, evT, evAll, evAny, evI, enter, fin1_rt, fin1_nx, fin1_xc, nx1_nx, nx1_rt, nx1_bk, nx1_ct, nx1_xc, mulOk, rngOk, D.isOwn, rs_non, rs_bl, rs_int, rs_str, rs_tup, rs_lst, rs_scr, rs_ow, o2_add_int, o2_sub_int, o2_mul_int, o2_fdiv_int, o2_mod_int, o2_pow_int, o2_band_int, o2_bor_int, o2_bxor_int, o2_shl_int, o2_shr_int, o2_lt_int, o2_le_int, o2_gt_int, o2_ge_int, o2_min_int, o2_max_int, o2_add_str, o2_add_tup, o2_add_lst, o2_mul_lst, o2_eq, o2_ne, o2_in, o2_nin, o2_idx_tup, o2_idx_lst, o2_idx_scr, o2_idx_str, o2_count, o2_join, eq_int, eq_str, eq_bl, eq_non_non, eq_non_bl, eq_non_int, eq_non_str, eq_non_tup, eq_non_lst, eq_bl_non, eq_bl_int, eq_bl_str, eq_bl_tup, eq_bl_lst, eq_int_non, eq_int_bl, eq_int_str, eq_int_tup, eq_int_lst, eq_str_non, eq_str_bl, eq_str_int, eq_str_tup, eq_str_lst, eq_tup_non, eq_tup_bl, eq_tup_int, eq_tup_str, eq_tup_tup, eq_tup_lst, eq_lst_non, eq_lst_bl, eq_lst_int, eq_lst_str, eq_lst_tup, eq_lst_lst, tr_non, tr_bl, tr_int, tr_str, tr_tup, tr_lst, ty_int_non, ty_int_bl, ty_int_int, ty_int_str, ty_int_tup, ty_int_lst, ty_bool_non, ty_bool_bl, ty_bool_int, ty_bool_str, ty_bool_tup, ty_bool_lst, ty_str_non, ty_str_bl, ty_str_int, ty_str_str, ty_str_tup, ty_str_lst, ty_tuple_non, ty_tuple_bl, ty_tuple_int, ty_tuple_str, ty_tuple_tup, ty_tuple_lst, ty_list_non, ty_list_bl, ty_list_int, ty_list_str, ty_list_tup, ty_list_lst, o1_neg, o1_not, o1_len_str, o1_len_tup, o1_len_lst, o1_len_scr, o1_tuple_lst, o1_tuple_tup, o1_list_lst, o1_list_tup, o1_all, o1_any, o1_sum, o1_int_int, o1_int_bl, o1_int_str, o1_str_int, o1_str_str, o1_repr_int, o1_repr_bl, o1_abs, o1_isi, o1_isB, o1_notB, o1_bits, o1_rev, o1_isN_non, o1_notN_non, o1_isN_bl, o1_notN_bl, o1_isN_int, o1_notN_int, o1_isN_str, o1_notN_str, o1_isN_tup, o1_notN_tup, o1_isN_lst, o1_notN_lst, o1_isN_ref, o1_notN_ref, o1_isN_scr, o1_notN_scr, sl_tup, sl_lst, sl_str, ao_int, ao_str, it_tup, it_lst, it_str, bg_nm, bg_tup, bg_lst, bg_nil, bg_cons, rc_add, rc_sub, rc_mul, rc_fdiv, rc_mod, rc_pow, rc_band, rc_bor, rc_bxor, rc_shl, rc_shr, rc_eq, rc_ne, rc_lt, rc_le, rc_gt, rc_ge, rc_in, rc_nin, rc_idx, rc_min, rc_max, rc_count, rc_join, wi_nil, wi_cons, sm_nil, sb_non, sb_bl, sb_int, sb_str, sb_tup, sb_lst, sb_ref, sb_own, no_nil, sm_cons, no_cons, E0_glob, is_integer_eq, hv]
theorem wrap_eq (n : Nat) (i : Int) (M : MH) (Q E) : wp (callN fs E0 (n + 1) 3 [.int i] M) Q E = Q (.int ((i - -2147483648) % 4294967296 + -2147483648)) M := by
  rw [wp_call (F := f_wrap) rfl rfl]
  simp only [f_wrap, b_wrap]
  simp [wp_seq, exs, wp_nil, wp_ok, wp_bad, wp_exc, wp_bind, wp_sb, wp_opt_some, wp_opt_none, wp_opt_ite, wp_opt_bind, wp_opt_map, wp_ite, wp_calm, ex, evE, evEs, evB, evAnd, evOr, evT, evAll, evAny, evI, enter, fin1_rt, fin1_nx, fin1_xc, nx1_nx, nx1_rt, nx1_bk, nx1_ct, nx1_xc, mulOk, rngOk, D.isOwn, rs_non, rs_bl, rs_int, rs_str, rs_tup, rs_lst, rs_scr, rs_ow, o2_add_int, o2_sub_int, o2_mul_int, o2_fdiv_int, o2_mod_int, o2_pow_int, o2_band_int, o2_bor_int, o2_bxor_int, o2_shl_int, o2_shr_int, o2_lt_int, o2_le_int, o2_gt_int, o2_ge_int, o2_min_int, o2_max_int, o2_add_str, o2_add_tup, o2_add_lst, o2_mul_lst, o2_eq, o2_ne, o2_in, o2_nin, o2_idx_tup, o2_idx_lst, o2_idx_scr, o2_idx_str, o2_count, o2_join, eq_int, eq_str, eq_bl, eq_non_non, eq_non_bl, eq_non_int, eq_non_str, eq_non_tup, eq_non_lst, eq_bl_non, eq_bl_int, eq_bl_str, eq_bl_tup, eq_bl_lst, eq_int_non, eq_int_bl, eq_int_str, eq_int_tup, eq_int_lst, eq_str_non, eq_str_bl, eq_str_int, eq_str_tup, eq_str_lst, eq_tup_non, eq_tup_bl, eq_tup_int, eq_tup_str, eq_tup_tup, eq_tup_lst, eq_lst_non, eq_lst_bl, eq_lst_int, eq_lst_str, eq_lst_tup, eq_lst_lst, tr_non, tr_bl, tr_int, tr_str, tr_tup, tr_lst, ty_int_non, ty_int_bl, ty_int_int, ty_int_str, ty_int_tup, ty_int_lst, ty_bool_non, ty_bool_bl, ty_bool_int, ty_bool_str, ty_bool_tup, ty_bool_lst, ty_str_non, ty_str_bl, ty_str_int, ty_str_str, ty_str_tup, ty_str_lst, ty_tuple_non, ty_tuple_bl, ty_tuple_int, ty_tuple_str, ty_tuple_tup, ty_tuple_lst, ty_list_non, ty_list_bl, ty_list_int, ty_list_str, ty_list_tup, ty_list_lst, o1_neg, o1_not, o1_len_str, o1_len_tup, o1_len_lst, o1_len_scr, o1_tuple_lst, o1_tuple_tup, o1_list_lst, o1_list_tup, o1_all, o1_any, o1_sum, o1_int_int, o1_int_bl, o1_int_str, o1_str_int, o1_str_str, o1_repr_int, o1_repr_bl, o1_abs, o1_isi, o1_isB, o1_notB, o1_bits, o1_rev, o1_isN_non, o1_notN_non, o1_isN_bl, o1_notN_bl, o1_isN_int, o1_notN_int, o1_isN_str, o1_notN_str, o1_isN_tup, o1_notN_tup, o1_isN_lst, o1_notN_lst, o1_isN_ref, o1_notN_ref, o1_isN_scr, o1_notN_scr, sl_tup, sl_lst, sl_str, ao_int, ao_str, it_tup, it_lst, it_str, bg_nm, bg_tup, bg_lst, bg_nil, bg_cons, rc_add, rc_sub, rc_mul, rc_fdiv, rc_mod, rc_pow, rc_band, rc_bor, rc_bxor, rc_shl, rc_shr, rc_eq, rc_ne, rc_lt, rc_le, rc_gt, rc_ge, rc_in, rc_nin, rc_idx, rc_min, rc_max, rc_count, rc_join, wi_nil, wi_cons, sm_nil, sb_non, sb_bl, sb_int, sb_str, sb_tup, sb_lst, sb_ref, sb_own, no_nil, sm_cons, no_cons, E0_glob]
def clipI (i lo hi : Int) : Int := if i < lo then lo else if i > hi then hi else i
theorem clip_eq (n : Nat) (i lo hi : Int) (M : MH) (Q E) : wp (callN fs E0 (n + 1) 4 [.int i, .int lo, .int hi] M) Q E = Q (.int (clipI i lo hi)) M := by
  rw [wp_call (F := f_clip) rfl rfl]
  simp only [f_clip, b_clip]
  by_cases h : i < lo
  · simp [wp_seq, exs, wp_nil, wp_ok, wp_bad, wp_exc, wp_bind, wp_sb, wp_opt_some, wp_opt_none, wp_opt_ite, wp_opt_bind, wp_opt_map, wp_ite, wp_calm, ex, evE, evEs, evB, evAnd, evOr, evT, evAll, evAny, evI, enter, fin1_rt, fin1_nx, fin1_xc, nx1_nx, nx1_rt, nx1_bk, nx1_ct, nx1_xc, mulOk, rngOk, D.isOwn, rs_non, rs_bl, rs_int, rs_str, rs_tup, rs_lst, rs_scr, rs_ow, o2_add_int, o2_sub_int, o2_mul_int, o2_fdiv_int, o2_mod_int, o2_pow_int, o2_band_int, o2_bor_int, o2_bxor_int, o2_shl_int, o2_shr_int, o2_lt_int, o2_le_int, o2_gt_int, o2_ge_int, o2_min_int, o2_max_int, o2_add_str, o2_add_tup, o2_add_lst, o2_mul_lst, o2_eq, o2_ne, o2_in, o2_nin, o2_idx_tup, o2_idx_lst, o2_idx_scr, o2_idx_str, o2_count, o2_join, eq_int, eq_str, eq_bl, eq_non_non, eq_non_bl, eq_non_int, eq_non_str, eq_non_tup, eq_non_lst, eq_bl_non, eq_bl_int, eq_bl_str, eq_bl_tup, eq_bl_lst, eq_int_non, eq_int_bl, eq_int_str, eq_int_tup, eq_int_lst, eq_str_non, eq_str_bl, eq_str_int, eq_str_tup, eq_str_lst, eq_tup_non, eq_tup_bl, eq_tup_int, eq_tup_str, eq_tup_tup, eq_tup_lst, eq_lst_non, eq_lst_bl, eq_lst_int, eq_lst_str, eq_lst_tup, eq_lst_lst, tr_non, tr_bl, tr_int, tr_str, tr_tup, tr_lst, ty_int_non, ty_int_bl, ty_int_int, ty_int_str, ty_int_tup, ty_int_lst, ty_bool_non, ty_bool_bl, ty_bool_int, ty_bool_str, ty_bool_tup, ty_bool_lst, ty_str_non, ty_str_bl, ty_str_int, ty_str_str, ty_str_tup, ty_str_lst, ty_tuple_non, ty_tuple_bl, ty_tuple_int, ty_tuple_str, ty_tuple_tup, ty_tuple_lst, ty_list_non, ty_list_bl, ty_list_int, ty_list_str, ty_list_tup, ty_list_lst, o1_neg, o1_not, o1_len_str, o1_len_tup, o1_len_lst, o1_len_scr, o1_tuple_lst, o1_tuple_tup, o1_list_lst, o1_list_tup, o1_all, o1_any, o1_sum, o1_int_int, o1_int_bl, o1_int_str, o1_str_int, o1_str_str, o1_repr_int, o1_repr_bl, o1_abs, o1_isi, o1_isB, o1_notB, o1_bits, o1_rev, o1_isN_non, o1_notN_non, o1_isN_bl, o1_notN_bl, o1_isN_int, o1_notN_int, o1_isN_str, o1_notN_str, o1_isN_tup, o1_notN_tup, o1_isN_lst, o1_notN_lst, o1_isN_ref, o1_notN_ref, o1_isN_scr, o1_notN_scr, sl_tup, sl_lst, sl_str, ao_int, ao_str, it_tup, it_lst, it_str, bg_nm, bg_tup, bg_lst, bg_nil, bg_cons, rc_add, rc_sub, rc_mul, rc_fdiv, rc_mod, rc_pow, rc_band, rc_bor, rc_bxor, rc_shl, rc_shr, rc_eq, rc_ne, rc_lt, rc_le, rc_gt, rc_ge, rc_in, rc_nin, rc_idx, rc_min, rc_max, rc_count, rc_join, wi_nil, wi_cons, sm_nil, sb_non, sb_bl, sb_int, sb_str, sb_tup, sb_lst, sb_ref, sb_own, no_nil, sm_cons, no_cons, h, clipI]
  · by_cases h2 : hi < i
    · simp [wp_seq, exs, wp_nil, wp_ok, wp_bad, wp_exc, wp_bind, wp_sb, wp_opt_some, wp_opt_none, wp_opt_ite, wp_opt_bind, wp_opt_map, wp_ite, wp_calm, ex, evE, evEs, evB, evAnd, evOr, evT, evAll, evAny, evI, enter, fin1_rt, fin1_nx, fin1_xc, nx1_nx, nx1_rt, nx1_bk, nx1_ct, nx1_xc, mulOk, rngOk, D.isOwn, rs_non, rs_bl, rs_int, rs_str, rs_tup, rs_lst, rs_scr, rs_ow, o2_add_int, o2_sub_int, o2_mul_int, o2_fdiv_int, o2_mod_int, o2_pow_int, o2_band_int, o2_bor_int, o2_bxor_int, o2_shl_int, o2_shr_int, o2_lt_int, o2_le_int, o2_gt_int, o2_ge_int, o2_min_int, o2_max_int, o2_add_str, o2_add_tup, o2_add_lst, o2_mul_lst, o2_eq, o2_ne, o2_in, o2_nin, o2_idx_tup, o2_idx_lst, o2_idx_scr, o2_idx_str, o2_count, o2_join, eq_int, eq_str, eq_bl, eq_non_non, eq_non_bl, eq_non_int, eq_non_str, eq_non_tup, eq_non_lst, eq_bl_non, eq_bl_int, eq_bl_str, eq_bl_tup, eq_bl_lst, eq_int_non, eq_int_bl, eq_int_str, eq_int_tup, eq_int_lst, eq_str_non, eq_str_bl, eq_str_int, eq_str_tup, eq_str_lst, eq_tup_non, eq_tup_bl, eq_tup_int, eq_tup_str, eq_tup_tup, eq_tup_lst, eq_lst_non, eq_lst_bl, eq_lst_int, eq_lst_str, eq_lst_tup, eq_lst_lst, tr_non, tr_bl, tr_int, tr_str, tr_tup, tr_lst, ty_int_non, ty_int_bl, ty_int_int, ty_int_str, ty_int_tup, ty_int_lst, ty_bool_non, ty_bool_bl, ty_bool_int, ty_bool_str, ty_bool_tup, ty_bool_lst, ty_str_non, ty_str_bl, ty_str_int, ty_str_str, ty_str_tup, ty_str_lst, ty_tuple_non, ty_tuple_bl, ty_tuple_int, ty_tuple_str, ty_tuple_tup, ty_tuple_lst, ty_list_non, ty_list_bl, ty_list_int, ty_list_str, ty_list_tup, ty_list_lst, o1_neg, o1_not, o1_len_str, o1_len_tup, o1_len_lst, o1_len_scr, o1_tuple_lst, o1_tuple_tup, o1_list_lst, o1_list_tup, o1_all, o1_any, o1_sum, o1_int_int, o1_int_bl, o1_int_str, o1_str_int, o1_str_str, o1_repr_int, o1_repr_bl, o1_abs, o1_isi, o1_isB, o1_notB, o1_bits, o1_rev, o1_isN_non, o1_notN_non, o1_isN_bl, o1_notN_bl, o1_isN_int, o1_notN_int, o1_isN_str, o1_notN_str, o1_isN_tup, o1_notN_tup, o1_isN_lst, o1_notN_lst, o1_isN_ref, o1_notN_ref, o1_isN_scr, o1_notN_scr, sl_tup, sl_lst, sl_str, ao_int, ao_str, it_tup, it_lst, it_str, bg_nm, bg_tup, bg_lst, bg_nil, bg_cons, rc_add, rc_sub, rc_mul, rc_fdiv, rc_mod, rc_pow, rc_band, rc_bor, rc_bxor, rc_shl, rc_shr, rc_eq, rc_ne, rc_lt, rc_le, rc_gt, rc_ge, rc_in, rc_nin, rc_idx, rc_min, rc_max, rc_count, rc_join, wi_nil, wi_cons, sm_nil, sb_non, sb_bl, sb_int, sb_str, sb_tup, sb_lst, sb_ref, sb_own, no_nil, sm_cons, no_cons, h, h2, clipI]
    · simp [wp_seq, exs, wp_nil, wp_ok, wp_bad, wp_exc, wp_bind, wp_sb, wp_opt_some, wp_opt_none, wp_opt_ite, wp_opt_bind, wp_opt_map, wp_ite, wp_calm, ex, evE, evEs, evB, evAnd, evOr, evT, evAll, evAny, evI, enter, fin1_rt, fin1_nx, fin1_xc, nx1_nx, nx1_rt, nx1_bk, nx1_ct, nx1_xc, mulOk, rngOk, D.isOwn, rs_non, rs_bl, rs_int, rs_str, rs_tup, rs_lst, rs_scr, rs_ow, o2_add_int, o2_sub_int, o2_mul_int, o2_fdiv_int, o2_mod_int, o2_pow_int, o2_band_int, o2_bor_int, o2_bxor_int, o2_shl_int, o2_shr_int, o2_lt_int, o2_le_int, o2_gt_int, o2_ge_int, o2_min_int, o2_max_int, o2_add_str, o2_add_tup, o2_add_lst, o2_mul_lst, o2_eq, o2_ne, o2_in, o2_nin, o2_idx_tup, o2_idx_lst, o2_idx_scr, o2_idx_str, o2_count, o2_join, eq_int, eq_str, eq_bl, eq_non_non, eq_non_bl, eq_non_int, eq_non_str, eq_non_tup, eq_non_lst, eq_bl_non, eq_bl_int, eq_bl_str, eq_bl_tup, eq_bl_lst, eq_int_non, eq_int_bl, eq_int_str, eq_int_tup, eq_int_lst, eq_str_non, eq_str_bl, eq_str_int, eq_str_tup, eq_str_lst, eq_tup_non, eq_tup_bl, eq_tup_int, eq_tup_str, eq_tup_tup, eq_tup_lst, eq_lst_non, eq_lst_bl, eq_lst_int, eq_lst_str, eq_lst_tup, eq_lst_lst, tr_non, tr_bl, tr_int, tr_str, tr_tup, tr_lst, ty_int_non, ty_int_bl, ty_int_int, ty_int_str, ty_int_tup, ty_int_lst, ty_bool_non, ty_bool_bl, ty_bool_int, ty_bool_str, ty_bool_tup, ty_bool_lst, ty_str_non, ty_str_bl, ty_str_int, ty_str_str, ty_str_tup, ty_str_lst, ty_tuple_non, ty_tuple_bl, ty_tuple_int, ty_tuple_str, ty_tuple_tup, ty_tuple_lst, ty_list_non, ty_list_bl, ty_list_int, ty_list_str, ty_list_tup, ty_list_lst, o1_neg, o1_not, o1_len_str, o1_len_tup, o1_len_lst, o1_len_scr, o1_tuple_lst, o1_tuple_tup, o1_list_lst, o1_list_tup, o1_all, o1_any, o1_sum, o1_int_int, o1_int_bl, o1_int_str, o1_str_int, o1_str_str, o1_repr_int, o1_repr_bl, o1_abs, o1_isi, o1_isB, o1_notB, o1_bits, o1_rev, o1_isN_non, o1_notN_non, o1_isN_bl, o1_notN_bl, o1_isN_int, o1_notN_int, o1_isN_str, o1_notN_str, o1_isN_tup, o1_notN_tup, o1_isN_lst, o1_notN_lst, o1_isN_ref, o1_notN_ref, o1_isN_scr, o1_notN_scr, sl_tup, sl_lst, sl_str, ao_int, ao_str, it_tup, it_lst, it_str, bg_nm, bg_tup, bg_lst, bg_nil, bg_cons, rc_add, rc_sub, rc_mul, rc_fdiv, rc_mod, rc_pow, rc_band, rc_bor, rc_bxor, rc_shl, rc_shr, rc_eq, rc_ne, rc_lt, rc_le, rc_gt, rc_ge, rc_in, rc_nin, rc_idx, rc_min, rc_max, rc_count, rc_join, wi_nil, wi_cons, sm_nil, sb_non, sb_bl, sb_int, sb_str, sb_tup, sb_lst, sb_ref, sb_own, no_nil, sm_cons, no_cons, h, h2, clipI]
/-! ### the pseudo-random numbers -/
def Bag (M : MH) (r : Nat) : Prop := ∃ a b c d, M[r]? = some (.lst [.int a, .int b, .int c, .int d])
theorem Bag.set {M : MH} {r : Nat} (h : Bag M r) (a b c d : Int) : (M.set r (.lst [.int a, .int b, .int c, .int d]))[r]? = some (.lst [.int a, .int b, .int c, .int d]) := by
  obtain ⟨_, _, _, _, h⟩ := h
  exact List.getElem?_set_self (List.getElem?_eq_some_iff.mp h).1
theorem set_set {α : Type} (l : List α) (i : Nat) (a b : α) : (l.set i a).set i b = l.set i b := by simp
theorem draw_wp {n r : Nat} {many : Int} {M : MH} {Q E} (h : Bag M r) (h1 : 1 ≤ many) (h2 : many.natAbs.log2 < 9000) (k : ∀ x M', 0 ≤ x → x < many → Bag M' r → Q (.int x) M') : wp (callN fs E0 (n + 1) 8 [.ref r, .int many] M) Q E := by
  obtain ⟨a, b, c, d, hM⟩ := h
  have hr : r < M.length := (List.getElem?_eq_some_iff.mp hM).1
  rw [wp_call (F := f_law_draw) rfl rfl]
  simp only [f_law_draw, b_law_draw]
  rw [wp_seq]
  have h1' : ¬ many < 1 := by omega
  simp [wp_nil, wp_ok, wp_bad, wp_exc, wp_bind, wp_sb, wp_opt_some, wp_opt_none, wp_opt_ite, wp_opt_bind, wp_opt_map, wp_ite, wp_calm, ex, evE, evEs, evB, evAnd, evOr, evT, evAll, evAny, evI, enter, fin1_rt, fin1_nx, fin1_xc, nx1_nx, nx1_rt, nx1_bk, nx1_ct, nx1_xc, mulOk, rngOk, D.isOwn, rs_non, rs_bl, rs_int, rs_str, rs_tup, rs_lst, rs_scr, rs_ow, o2_add_int, o2_sub_int, o2_mul_int, o2_fdiv_int, o2_mod_int, o2_pow_int, o2_band_int, o2_bor_int, o2_bxor_int, o2_shl_int, o2_shr_int, o2_lt_int, o2_le_int, o2_gt_int, o2_ge_int, o2_min_int, o2_max_int, o2_add_str, o2_add_tup, o2_add_lst, o2_mul_lst, o2_eq, o2_ne, o2_in, o2_nin, o2_idx_tup, o2_idx_lst, o2_idx_scr, o2_idx_str, o2_count, o2_join, eq_int, eq_str, eq_bl, eq_non_non, eq_non_bl, eq_non_int, eq_non_str, eq_non_tup, eq_non_lst, eq_bl_non, eq_bl_int, eq_bl_str, eq_bl_tup, eq_bl_lst, eq_int_non, eq_int_bl, eq_int_str, eq_int_tup, eq_int_lst, eq_str_non, eq_str_bl, eq_str_int, eq_str_tup, eq_str_lst, eq_tup_non, eq_tup_bl, eq_tup_int, eq_tup_str, eq_tup_tup, eq_tup_lst, eq_lst_non, eq_lst_bl, eq_lst_int, eq_lst_str, eq_lst_tup, eq_lst_lst, tr_non, tr_bl, tr_int, tr_str, tr_tup, tr_lst, ty_int_non, ty_int_bl, ty_int_int, ty_int_str, ty_int_tup, ty_int_lst, ty_bool_non, ty_bool_bl, ty_bool_int, ty_bool_str, ty_bool_tup, ty_bool_lst, ty_str_non, ty_str_bl, ty_str_int, ty_str_str, ty_str_tup, ty_str_lst, ty_tuple_non, ty_tuple_bl, ty_tuple_int, ty_tuple_str, ty_tuple_tup, ty_tuple_lst, ty_list_non, ty_list_bl, ty_list_int, ty_list_str, ty_list_tup, ty_list_lst, o1_neg, o1_not, o1_len_str, o1_len_tup, o1_len_lst, o1_len_scr, o1_tuple_lst, o1_tuple_tup, o1_list_lst, o1_list_tup, o1_all, o1_any, o1_sum, o1_int_int, o1_int_bl, o1_int_str, o1_str_int, o1_str_str, o1_repr_int, o1_repr_bl, o1_abs, o1_isi, o1_isB, o1_notB, o1_bits, o1_rev, o1_isN_non, o1_notN_non, o1_isN_bl, o1_notN_bl, o1_isN_int, o1_notN_int, o1_isN_str, o1_notN_str, o1_isN_tup, o1_notN_tup, o1_isN_lst, o1_notN_lst, o1_isN_ref, o1_notN_ref, o1_isN_scr, o1_notN_scr, sl_tup, sl_lst, sl_str, ao_int, ao_str, it_tup, it_lst, it_str, bg_nm, bg_tup, bg_lst, bg_nil, bg_cons, rc_add, rc_sub, rc_mul, rc_fdiv, rc_mod, rc_pow, rc_band, rc_bor, rc_bxor, rc_shl, rc_shr, rc_eq, rc_ne, rc_lt, rc_le, rc_gt, rc_ge, rc_in, rc_nin, rc_idx, rc_min, rc_max, rc_count, rc_join, wi_nil, wi_cons, sm_nil, sb_non, sb_bl, sb_int, sb_str, sb_tup, sb_lst, sb_ref, sb_own, no_nil, sm_cons, no_cons, h1']
  rw [wp_seq]
  have hr0 : ∀ s, rs s M (.ref r) = .lst [.int a, .int b, .int c, .int d] := fun s => rs_ref hM
  have hget : ∀ x : MO, (M.set r x)[r]? = some x := fun x => List.getElem?_set_self hr
  have hrs : ∀ s l, rs s (M.set r (.lst l)) (.ref r) = .lst l := fun s l => rs_ref (hget _)
  have hp : 0 < many := by omega
  have fin : ∀ (x a b c d : Int), Q (.int (x % many)) (M.set r (.lst [.int a, .int b, .int c, .int d])) := fun x a b c d => k _ _ (Int.emod_nonneg _ (by omega)) (Int.emod_lt_of_pos _ hp) ⟨_, _, _, _, hget _⟩
  by_cases ha : a = 0
  · subst ha
    simp [wp_seq, exs, wp_nil, wp_ok, wp_bad, wp_exc, wp_bind, wp_sb, wp_opt_some, wp_opt_none, wp_opt_ite, wp_opt_bind, wp_opt_map, wp_ite, wp_calm, ex, evE, evEs, evB, evAnd, evOr, evT, evAll, evAny, evI, enter, fin1_rt, fin1_nx, fin1_xc, nx1_nx, nx1_rt, nx1_bk, nx1_ct, nx1_xc, mulOk, rngOk, D.isOwn, rs_non, rs_bl, rs_int, rs_str, rs_tup, rs_lst, rs_scr, rs_ow, o2_add_int, o2_sub_int, o2_mul_int, o2_fdiv_int, o2_mod_int, o2_pow_int, o2_band_int, o2_bor_int, o2_bxor_int, o2_shl_int, o2_shr_int, o2_lt_int, o2_le_int, o2_gt_int, o2_ge_int, o2_min_int, o2_max_int, o2_add_str, o2_add_tup, o2_add_lst, o2_mul_lst, o2_eq, o2_ne, o2_in, o2_nin, o2_idx_tup, o2_idx_lst, o2_idx_scr, o2_idx_str, o2_count, o2_join, eq_int, eq_str, eq_bl, eq_non_non, eq_non_bl, eq_non_int, eq_non_str, eq_non_tup, eq_non_lst, eq_bl_non, eq_bl_int, eq_bl_str, eq_bl_tup, eq_bl_lst, eq_int_non, eq_int_bl, eq_int_str, eq_int_tup, eq_int_lst, eq_str_non, eq_str_bl, eq_str_int, eq_str_tup, eq_str_lst, eq_tup_non, eq_tup_bl, eq_tup_int, eq_tup_str, eq_tup_tup, eq_tup_lst, eq_lst_non, eq_lst_bl, eq_lst_int, eq_lst_str, eq_lst_tup, eq_lst_lst, tr_non, tr_bl, tr_int, tr_str, tr_tup, tr_lst, ty_int_non, ty_int_bl, ty_int_int, ty_int_str, ty_int_tup, ty_int_lst, ty_bool_non, ty_bool_bl, ty_bool_int, ty_bool_str, ty_bool_tup, ty_bool_lst, ty_str_non, ty_str_bl, ty_str_int, ty_str_str, ty_str_tup, ty_str_lst, ty_tuple_non, ty_tuple_bl, ty_tuple_int, ty_tuple_str, ty_tuple_tup, ty_tuple_lst, ty_list_non, ty_list_bl, ty_list_int, ty_list_str, ty_list_tup, ty_list_lst, o1_neg, o1_not, o1_len_str, o1_len_tup, o1_len_lst, o1_len_scr, o1_tuple_lst, o1_tuple_tup, o1_list_lst, o1_list_tup, o1_all, o1_any, o1_sum, o1_int_int, o1_int_bl, o1_int_str, o1_str_int, o1_str_str, o1_repr_int, o1_repr_bl, o1_abs, o1_isi, o1_isB, o1_notB, o1_bits, o1_rev, o1_isN_non, o1_notN_non, o1_isN_bl, o1_notN_bl, o1_isN_int, o1_notN_int, o1_isN_str, o1_notN_str, o1_isN_tup, o1_notN_tup, o1_isN_lst, o1_notN_lst, o1_isN_ref, o1_notN_ref, o1_isN_scr, o1_notN_scr, sl_tup, sl_lst, sl_str, ao_int, ao_str, it_tup, it_lst, it_str, bg_nm, bg_tup, bg_lst, bg_nil, bg_cons, rc_add, rc_sub, rc_mul, rc_fdiv, rc_mod, rc_pow, rc_band, rc_bor, rc_bxor, rc_shl, rc_shr, rc_eq, rc_ne, rc_lt, rc_le, rc_gt, rc_ge, rc_in, rc_nin, rc_idx, rc_min, rc_max, rc_count, rc_join, wi_nil, wi_cons, sm_nil, sb_non, sb_bl, sb_int, sb_str, sb_tup, sb_lst, sb_ref, sb_own, no_nil, sm_cons, no_cons, hr0, hrs, hM, L2.atI, L2.ixN, hget, set_set]
    refine ⟨.inl ?_, ?_⟩
    · have h1 := Int.emod_nonneg (b * 48271 + d * 69621 + (c + 1) * 16807 + 11) (show (2147483647 : Int) ≠ 0 by decide)
      have h2 := Int.emod_lt_of_pos (b * 48271 + d * 69621 + (c + 1) * 16807 + 11) (show (0 : Int) < 2147483647 by decide)
      omega
    · split
      · split
        · exact ⟨⟨hp, h2⟩, hp, fin _ _ _ _ _⟩
        · exact ⟨⟨hp, h2⟩, hp, fin _ _ _ _ _⟩
      · exact ⟨⟨hp, h2⟩, hp, fin _ _ _ _ _⟩
  · simp [wp_seq, exs, wp_nil, wp_ok, wp_bad, wp_exc, wp_bind, wp_sb, wp_opt_some, wp_opt_none, wp_opt_ite, wp_opt_bind, wp_opt_map, wp_ite, wp_calm, ex, evE, evEs, evB, evAnd, evOr, evT, evAll, evAny, evI, enter, fin1_rt, fin1_nx, fin1_xc, nx1_nx, nx1_rt, nx1_bk, nx1_ct, nx1_xc, mulOk, rngOk, D.isOwn, rs_non, rs_bl, rs_int, rs_str, rs_tup, rs_lst, rs_scr, rs_ow, o2_add_int, o2_sub_int, o2_mul_int, o2_fdiv_int, o2_mod_int, o2_pow_int, o2_band_int, o2_bor_int, o2_bxor_int, o2_shl_int, o2_shr_int, o2_lt_int, o2_le_int, o2_gt_int, o2_ge_int, o2_min_int, o2_max_int, o2_add_str, o2_add_tup, o2_add_lst, o2_mul_lst, o2_eq, o2_ne, o2_in, o2_nin, o2_idx_tup, o2_idx_lst, o2_idx_scr, o2_idx_str, o2_count, o2_join, eq_int, eq_str, eq_bl, eq_non_non, eq_non_bl, eq_non_int, eq_non_str, eq_non_tup, eq_non_lst, eq_bl_non, eq_bl_int, eq_bl_str, eq_bl_tup, eq_bl_lst, eq_int_non, eq_int_bl, eq_int_str, eq_int_tup, eq_int_lst, eq_str_non, eq_str_bl, eq_str_int, eq_str_tup, eq_str_lst, eq_tup_non, eq_tup_bl, eq_tup_int, eq_tup_str, eq_tup_tup, eq_tup_lst, eq_lst_non, eq_lst_bl, eq_lst_int, eq_lst_str, eq_lst_tup, eq_lst_lst, tr_non, tr_bl, tr_int, tr_str, tr_tup, tr_lst, ty_int_non, ty_int_bl, ty_int_int, ty_int_str, ty_int_tup, ty_int_lst, ty_bool_non, ty_bool_bl, ty_bool_int, ty_bool_str, ty_bool_tup, ty_bool_lst, ty_str_non, ty_str_bl, ty_str_int, ty_str_str, ty_str_tup, ty_str_lst, ty_tuple_non, ty_tuple_bl, ty_tuple_int, ty_tuple_str, ty_tuple_tup, ty_tuple_lst, ty_list_non, ty_list_bl, ty_list_int, ty_list_str, ty_list_tup, ty_list_lst, o1_neg, o1_not, o1_len_str, o1_len_tup, o1_len_lst, o1_len_scr, o1_tuple_lst, o1_tuple_tup, o1_list_lst, o1_list_tup, o1_all, o1_any, o1_sum, o1_int_int, o1_int_bl, o1_int_str, o1_str_int, o1_str_str, o1_repr_int, o1_repr_bl, o1_abs, o1_isi, o1_isB, o1_notB, o1_bits, o1_rev, o1_isN_non, o1_notN_non, o1_isN_bl, o1_notN_bl, o1_isN_int, o1_notN_int, o1_isN_str, o1_notN_str, o1_isN_tup, o1_notN_tup, o1_isN_lst, o1_notN_lst, o1_isN_ref, o1_notN_ref, o1_isN_scr, o1_notN_scr, sl_tup, sl_lst, sl_str, ao_int, ao_str, it_tup, it_lst, it_str, bg_nm, bg_tup, bg_lst, bg_nil, bg_cons, rc_add, rc_sub, rc_mul, rc_fdiv, rc_mod, rc_pow, rc_band, rc_bor, rc_bxor, rc_shl, rc_shr, rc_eq, rc_ne, rc_lt, rc_le, rc_gt, rc_ge, rc_in, rc_nin, rc_idx, rc_min, rc_max, rc_count, rc_join, wi_nil, wi_cons, sm_nil, sb_non, sb_bl, sb_int, sb_str, sb_tup, sb_lst, sb_ref, sb_own, no_nil, sm_cons, no_cons, hr0, hrs, hM, L2.atI, L2.ixN, hget, set_set, ha]
    exact ⟨⟨hp, h2⟩, hp, fin _ _ _ _ _⟩
theorem one_wp {n r : Nat} {l : List D} {M : MH} {Q E} (h : Bag M r) (h1 : 1 ≤ l.length) (h2 : l.length < 1000) (k : ∀ d M', d ∈ l → Bag M' r → Q d M') : wp (callN fs E0 (n + 2) 9 [.ref r, .lst l] M) Q E := by
  rw [wp_call (F := f_law_one) rfl rfl]
  simp only [f_law_one, b_law_one]
  simp [wp_seq, exs, wp_nil, wp_ok, wp_bad, wp_exc, wp_bind, wp_sb, wp_opt_some, wp_opt_none, wp_opt_ite, wp_opt_bind, wp_opt_map, wp_ite, wp_calm, ex, evE, evEs, evB, evAnd, evOr, evT, evAll, evAny, evI, enter, fin1_rt, fin1_nx, fin1_xc, nx1_nx, nx1_rt, nx1_bk, nx1_ct, nx1_xc, mulOk, rngOk, D.isOwn, rs_non, rs_bl, rs_int, rs_str, rs_tup, rs_lst, rs_scr, rs_ow, o2_add_int, o2_sub_int, o2_mul_int, o2_fdiv_int, o2_mod_int, o2_pow_int, o2_band_int, o2_bor_int, o2_bxor_int, o2_shl_int, o2_shr_int, o2_lt_int, o2_le_int, o2_gt_int, o2_ge_int, o2_min_int, o2_max_int, o2_add_str, o2_add_tup, o2_add_lst, o2_mul_lst, o2_eq, o2_ne, o2_in, o2_nin, o2_idx_tup, o2_idx_lst, o2_idx_scr, o2_idx_str, o2_count, o2_join, eq_int, eq_str, eq_bl, eq_non_non, eq_non_bl, eq_non_int, eq_non_str, eq_non_tup, eq_non_lst, eq_bl_non, eq_bl_int, eq_bl_str, eq_bl_tup, eq_bl_lst, eq_int_non, eq_int_bl, eq_int_str, eq_int_tup, eq_int_lst, eq_str_non, eq_str_bl, eq_str_int, eq_str_tup, eq_str_lst, eq_tup_non, eq_tup_bl, eq_tup_int, eq_tup_str, eq_tup_tup, eq_tup_lst, eq_lst_non, eq_lst_bl, eq_lst_int, eq_lst_str, eq_lst_tup, eq_lst_lst, tr_non, tr_bl, tr_int, tr_str, tr_tup, tr_lst, ty_int_non, ty_int_bl, ty_int_int, ty_int_str, ty_int_tup, ty_int_lst, ty_bool_non, ty_bool_bl, ty_bool_int, ty_bool_str, ty_bool_tup, ty_bool_lst, ty_str_non, ty_str_bl, ty_str_int, ty_str_str, ty_str_tup, ty_str_lst, ty_tuple_non, ty_tuple_bl, ty_tuple_int, ty_tuple_str, ty_tuple_tup, ty_tuple_lst, ty_list_non, ty_list_bl, ty_list_int, ty_list_str, ty_list_tup, ty_list_lst, o1_neg, o1_not, o1_len_str, o1_len_tup, o1_len_lst, o1_len_scr, o1_tuple_lst, o1_tuple_tup, o1_list_lst, o1_list_tup, o1_all, o1_any, o1_sum, o1_int_int, o1_int_bl, o1_int_str, o1_str_int, o1_str_str, o1_repr_int, o1_repr_bl, o1_abs, o1_isi, o1_isB, o1_notB, o1_bits, o1_rev, o1_isN_non, o1_notN_non, o1_isN_bl, o1_notN_bl, o1_isN_int, o1_notN_int, o1_isN_str, o1_notN_str, o1_isN_tup, o1_notN_tup, o1_isN_lst, o1_notN_lst, o1_isN_ref, o1_notN_ref, o1_isN_scr, o1_notN_scr, sl_tup, sl_lst, sl_str, ao_int, ao_str, it_tup, it_lst, it_str, bg_nm, bg_tup, bg_lst, bg_nil, bg_cons, rc_add, rc_sub, rc_mul, rc_fdiv, rc_mod, rc_pow, rc_band, rc_bor, rc_bxor, rc_shl, rc_shr, rc_eq, rc_ne, rc_lt, rc_le, rc_gt, rc_ge, rc_in, rc_nin, rc_idx, rc_min, rc_max, rc_count, rc_join, wi_nil, wi_cons, sm_nil, sb_non, sb_bl, sb_int, sb_str, sb_tup, sb_lst, sb_ref, sb_own, no_nil, sm_cons, no_cons]
  refine draw_wp h (by omega) ?_ fun x M' h3 h4 hb => ?_
  · have : ((l.length : Int)).natAbs = l.length := by simp
    rw [this]
    exact Nat.lt_of_le_of_lt (Nat.log2_le_self _) (by omega)
  · simp [wp_nil, wp_ok, wp_bad, wp_exc, wp_bind, wp_sb, wp_opt_some, wp_opt_none, wp_opt_ite, wp_opt_bind, wp_opt_map, wp_ite, wp_calm, ex, evE, evEs, evB, evAnd, evOr, evT, evAll, evAny, evI, enter, fin1_rt, fin1_nx, fin1_xc, nx1_nx, nx1_rt, nx1_bk, nx1_ct, nx1_xc, mulOk, rngOk, D.isOwn, rs_non, rs_bl, rs_int, rs_str, rs_tup, rs_lst, rs_scr, rs_ow, o2_add_int, o2_sub_int, o2_mul_int, o2_fdiv_int, o2_mod_int, o2_pow_int, o2_band_int, o2_bor_int, o2_bxor_int, o2_shl_int, o2_shr_int, o2_lt_int, o2_le_int, o2_gt_int, o2_ge_int, o2_min_int, o2_max_int, o2_add_str, o2_add_tup, o2_add_lst, o2_mul_lst, o2_eq, o2_ne, o2_in, o2_nin, o2_idx_tup, o2_idx_lst, o2_idx_scr, o2_idx_str, o2_count, o2_join, eq_int, eq_str, eq_bl, eq_non_non, eq_non_bl, eq_non_int, eq_non_str, eq_non_tup, eq_non_lst, eq_bl_non, eq_bl_int, eq_bl_str, eq_bl_tup, eq_bl_lst, eq_int_non, eq_int_bl, eq_int_str, eq_int_tup, eq_int_lst, eq_str_non, eq_str_bl, eq_str_int, eq_str_tup, eq_str_lst, eq_tup_non, eq_tup_bl, eq_tup_int, eq_tup_str, eq_tup_tup, eq_tup_lst, eq_lst_non, eq_lst_bl, eq_lst_int, eq_lst_str, eq_lst_tup, eq_lst_lst, tr_non, tr_bl, tr_int, tr_str, tr_tup, tr_lst, ty_int_non, ty_int_bl, ty_int_int, ty_int_str, ty_int_tup, ty_int_lst, ty_bool_non, ty_bool_bl, ty_bool_int, ty_bool_str, ty_bool_tup, ty_bool_lst, ty_str_non, ty_str_bl, ty_str_int, ty_str_str, ty_str_tup, ty_str_lst, ty_tuple_non, ty_tuple_bl, ty_tuple_int, ty_tuple_str, ty_tuple_tup, ty_tuple_lst, ty_list_non, ty_list_bl, ty_list_int, ty_list_str, ty_list_tup, ty_list_lst, o1_neg, o1_not, o1_len_str, o1_len_tup, o1_len_lst, o1_len_scr, o1_tuple_lst, o1_tuple_tup, o1_list_lst, o1_list_tup, o1_all, o1_any, o1_sum, o1_int_int, o1_int_bl, o1_int_str, o1_str_int, o1_str_str, o1_repr_int, o1_repr_bl, o1_abs, o1_isi, o1_isB, o1_notB, o1_bits, o1_rev, o1_isN_non, o1_notN_non, o1_isN_bl, o1_notN_bl, o1_isN_int, o1_notN_int, o1_isN_str, o1_notN_str, o1_isN_tup, o1_notN_tup, o1_isN_lst, o1_notN_lst, o1_isN_ref, o1_notN_ref, o1_isN_scr, o1_notN_scr, sl_tup, sl_lst, sl_str, ao_int, ao_str, it_tup, it_lst, it_str, bg_nm, bg_tup, bg_lst, bg_nil, bg_cons, rc_add, rc_sub, rc_mul, rc_fdiv, rc_mod, rc_pow, rc_band, rc_bor, rc_bxor, rc_shl, rc_shr, rc_eq, rc_ne, rc_lt, rc_le, rc_gt, rc_ge, rc_in, rc_nin, rc_idx, rc_min, rc_max, rc_count, rc_join, wi_nil, wi_cons, sm_nil, sb_non, sb_bl, sb_int, sb_str, sb_tup, sb_lst, sb_ref, sb_own, no_nil, sm_cons, no_cons]
    rw [atI_nat h3 h4, wp_opt_some]
    exact k _ _ (List.getElem_mem _) hb
end MPL

set_option Elab.async false
set_option linter.all false
set_option maxRecDepth 100000
set_option maxHeartbeats 1000000
open MP PySem
namespace MPL
def isI : D → Bool
  | .int _ => true
  | _ => false
theorem all_int {l : List D} (h : l.all isI = true) {d : D} (hd : d ∈ l) : ∃ i, d = .int i := by
  have := List.all_eq_true.mp h d hd
  cases d <;> simp [isI] at this
  exact ⟨_, rfl⟩
theorem integer_wp {n r : Nat} {M : MH} {Q E} (h : Bag M r) (k : ∀ i M', Bag M' r → Q (.int i) M') : wp (callN fs E0 (n + 3) 10 [.ref r] M) Q E := by
  rw [wp_call (F := f_law_integer) rfl rfl]
  simp only [f_law_integer, b_law_integer]
  rw [wp_seq]
  simp [wp_nil, wp_ok, wp_bad, wp_exc, wp_bind, wp_sb, wp_opt_some, wp_opt_none, wp_opt_ite, wp_opt_bind, wp_opt_map, wp_ite, wp_calm, ex, evE, evEs, evB, evAnd, evOr, evT, evAll, evAny, evI, enter, fin1_rt, fin1_nx, fin1_xc, nx1_nx, nx1_rt, nx1_bk, nx1_ct, nx1_xc, mulOk, rngOk, D.isOwn, rs_non, rs_bl, rs_int, rs_str, rs_tup, rs_lst, rs_scr, rs_ow, o2_add_int, o2_sub_int, o2_mul_int, o2_fdiv_int, o2_mod_int, o2_pow_int, o2_band_int, o2_bor_int, o2_bxor_int, o2_shl_int, o2_shr_int, o2_lt_int, o2_le_int, o2_gt_int, o2_ge_int, o2_min_int, o2_max_int, o2_add_str, o2_add_tup, o2_add_lst, o2_mul_lst, o2_eq, o2_ne, o2_in, o2_nin, o2_idx_tup, o2_idx_lst, o2_idx_scr, o2_idx_str, o2_count, o2_join, eq_int, eq_str, eq_bl, eq_non_non, eq_non_bl, eq_non_int, eq_non_str, eq_non_tup, eq_non_lst, eq_bl_non, eq_bl_int, eq_bl_str, eq_bl_tup, eq_bl_lst, eq_int_non, eq_int_bl, eq_int_str, eq_int_tup, eq_int_lst, eq_str_non, eq_str_bl, eq_str_int, eq_str_tup, eq_str_lst, eq_tup_non, eq_tup_bl, eq_tup_int, eq_tup_str, eq_tup_tup, eq_tup_lst, eq_lst_non, eq_lst_bl, eq_lst_int, eq_lst_str, eq_lst_tup, eq_lst_lst, tr_non, tr_bl, tr_int, tr_str, tr_tup, tr_lst, ty_int_non, ty_int_bl, ty_int_int, ty_int_str, ty_int_tup, ty_int_lst, ty_bool_non, ty_bool_bl, ty_bool_int, ty_bool_str, ty_bool_tup, ty_bool_lst, ty_str_non, ty_str_bl, ty_str_int, ty_str_str, ty_str_tup, ty_str_lst, ty_tuple_non, ty_tuple_bl, ty_tuple_int, ty_tuple_str, ty_tuple_tup, ty_tuple_lst, ty_list_non, ty_list_bl, ty_list_int, ty_list_str, ty_list_tup, ty_list_lst, o1_neg, o1_not, o1_len_str, o1_len_tup, o1_len_lst, o1_len_scr, o1_tuple_lst, o1_tuple_tup, o1_list_lst, o1_list_tup, o1_all, o1_any, o1_sum, o1_int_int, o1_int_bl, o1_int_str, o1_str_int, o1_str_str, o1_repr_int, o1_repr_bl, o1_abs, o1_isi, o1_isB, o1_notB, o1_bits, o1_rev, o1_isN_non, o1_notN_non, o1_isN_bl, o1_notN_bl, o1_isN_int, o1_notN_int, o1_isN_str, o1_notN_str, o1_isN_tup, o1_notN_tup, o1_isN_lst, o1_notN_lst, o1_isN_ref, o1_notN_ref, o1_isN_scr, o1_notN_scr, sl_tup, sl_lst, sl_str, ao_int, ao_str, it_tup, it_lst, it_str, bg_nm, bg_tup, bg_lst, bg_nil, bg_cons, rc_add, rc_sub, rc_mul, rc_fdiv, rc_mod, rc_pow, rc_band, rc_bor, rc_bxor, rc_shl, rc_shr, rc_eq, rc_ne, rc_lt, rc_le, rc_gt, rc_ge, rc_in, rc_nin, rc_idx, rc_min, rc_max, rc_count, rc_join, wi_nil, wi_cons, sm_nil, sb_non, sb_bl, sb_int, sb_str, sb_tup, sb_lst, sb_ref, sb_own, no_nil, sm_cons, no_cons, sizeLine_eq]
  refine one_wp h (by simp) (by simp) fun d M1 hd hb => ?_
  obtain ⟨i, rfl⟩ := all_int rfl hd
  rw [wp_seq]
  simp [wp_nil, wp_ok, wp_bad, wp_exc, wp_bind, wp_sb, wp_opt_some, wp_opt_none, wp_opt_ite, wp_opt_bind, wp_opt_map, wp_ite, wp_calm, ex, evE, evEs, evB, evAnd, evOr, evT, evAll, evAny, evI, enter, fin1_rt, fin1_nx, fin1_xc, nx1_nx, nx1_rt, nx1_bk, nx1_ct, nx1_xc, mulOk, rngOk, D.isOwn, rs_non, rs_bl, rs_int, rs_str, rs_tup, rs_lst, rs_scr, rs_ow, o2_add_int, o2_sub_int, o2_mul_int, o2_fdiv_int, o2_mod_int, o2_pow_int, o2_band_int, o2_bor_int, o2_bxor_int, o2_shl_int, o2_shr_int, o2_lt_int, o2_le_int, o2_gt_int, o2_ge_int, o2_min_int, o2_max_int, o2_add_str, o2_add_tup, o2_add_lst, o2_mul_lst, o2_eq, o2_ne, o2_in, o2_nin, o2_idx_tup, o2_idx_lst, o2_idx_scr, o2_idx_str, o2_count, o2_join, eq_int, eq_str, eq_bl, eq_non_non, eq_non_bl, eq_non_int, eq_non_str, eq_non_tup, eq_non_lst, eq_bl_non, eq_bl_int, eq_bl_str, eq_bl_tup, eq_bl_lst, eq_int_non, eq_int_bl, eq_int_str, eq_int_tup, eq_int_lst, eq_str_non, eq_str_bl, eq_str_int, eq_str_tup, eq_str_lst, eq_tup_non, eq_tup_bl, eq_tup_int, eq_tup_str, eq_tup_tup, eq_tup_lst, eq_lst_non, eq_lst_bl, eq_lst_int, eq_lst_str, eq_lst_tup, eq_lst_lst, tr_non, tr_bl, tr_int, tr_str, tr_tup, tr_lst, ty_int_non, ty_int_bl, ty_int_int, ty_int_str, ty_int_tup, ty_int_lst, ty_bool_non, ty_bool_bl, ty_bool_int, ty_bool_str, ty_bool_tup, ty_bool_lst, ty_str_non, ty_str_bl, ty_str_int, ty_str_str, ty_str_tup, ty_str_lst, ty_tuple_non, ty_tuple_bl, ty_tuple_int, ty_tuple_str, ty_tuple_tup, ty_tuple_lst, ty_list_non, ty_list_bl, ty_list_int, ty_list_str, ty_list_tup, ty_list_lst, o1_neg, o1_not, o1_len_str, o1_len_tup, o1_len_lst, o1_len_scr, o1_tuple_lst, o1_tuple_tup, o1_list_lst, o1_list_tup, o1_all, o1_any, o1_sum, o1_int_int, o1_int_bl, o1_int_str, o1_str_int, o1_str_str, o1_repr_int, o1_repr_bl, o1_abs, o1_isi, o1_isB, o1_notB, o1_bits, o1_rev, o1_isN_non, o1_notN_non, o1_isN_bl, o1_notN_bl, o1_isN_int, o1_notN_int, o1_isN_str, o1_notN_str, o1_isN_tup, o1_notN_tup, o1_isN_lst, o1_notN_lst, o1_isN_ref, o1_notN_ref, o1_isN_scr, o1_notN_scr, sl_tup, sl_lst, sl_str, ao_int, ao_str, it_tup, it_lst, it_str, bg_nm, bg_tup, bg_lst, bg_nil, bg_cons, rc_add, rc_sub, rc_mul, rc_fdiv, rc_mod, rc_pow, rc_band, rc_bor, rc_bxor, rc_shl, rc_shr, rc_eq, rc_ne, rc_lt, rc_le, rc_gt, rc_ge, rc_in, rc_nin, rc_idx, rc_min, rc_max, rc_count, rc_join, wi_nil, wi_cons, sm_nil, sb_non, sb_bl, sb_int, sb_str, sb_tup, sb_lst, sb_ref, sb_own, no_nil, sm_cons, no_cons, sizeLine_eq]
  refine draw_wp hb (by decide) (by decide +kernel) fun x M2 h1 h2 hb2 => ?_
  refine one_wp hb2 (by simp) (by simp) fun d M3 hd hb3 => ?_
  obtain ⟨j, rfl⟩ := all_int rfl hd
  simp [wp_nil, wp_ok, wp_bad, wp_exc, wp_bind, wp_sb, wp_opt_some, wp_opt_none, wp_opt_ite, wp_opt_bind, wp_opt_map, wp_ite, wp_calm, ex, evE, evEs, evB, evAnd, evOr, evT, evAll, evAny, evI, enter, fin1_rt, fin1_nx, fin1_xc, nx1_nx, nx1_rt, nx1_bk, nx1_ct, nx1_xc, mulOk, rngOk, D.isOwn, rs_non, rs_bl, rs_int, rs_str, rs_tup, rs_lst, rs_scr, rs_ow, o2_add_int, o2_sub_int, o2_mul_int, o2_fdiv_int, o2_mod_int, o2_pow_int, o2_band_int, o2_bor_int, o2_bxor_int, o2_shl_int, o2_shr_int, o2_lt_int, o2_le_int, o2_gt_int, o2_ge_int, o2_min_int, o2_max_int, o2_add_str, o2_add_tup, o2_add_lst, o2_mul_lst, o2_eq, o2_ne, o2_in, o2_nin, o2_idx_tup, o2_idx_lst, o2_idx_scr, o2_idx_str, o2_count, o2_join, eq_int, eq_str, eq_bl, eq_non_non, eq_non_bl, eq_non_int, eq_non_str, eq_non_tup, eq_non_lst, eq_bl_non, eq_bl_int, eq_bl_str, eq_bl_tup, eq_bl_lst, eq_int_non, eq_int_bl, eq_int_str, eq_int_tup, eq_int_lst, eq_str_non, eq_str_bl, eq_str_int, eq_str_tup, eq_str_lst, eq_tup_non, eq_tup_bl, eq_tup_int, eq_tup_str, eq_tup_tup, eq_tup_lst, eq_lst_non, eq_lst_bl, eq_lst_int, eq_lst_str, eq_lst_tup, eq_lst_lst, tr_non, tr_bl, tr_int, tr_str, tr_tup, tr_lst, ty_int_non, ty_int_bl, ty_int_int, ty_int_str, ty_int_tup, ty_int_lst, ty_bool_non, ty_bool_bl, ty_bool_int, ty_bool_str, ty_bool_tup, ty_bool_lst, ty_str_non, ty_str_bl, ty_str_int, ty_str_str, ty_str_tup, ty_str_lst, ty_tuple_non, ty_tuple_bl, ty_tuple_int, ty_tuple_str, ty_tuple_tup, ty_tuple_lst, ty_list_non, ty_list_bl, ty_list_int, ty_list_str, ty_list_tup, ty_list_lst, o1_neg, o1_not, o1_len_str, o1_len_tup, o1_len_lst, o1_len_scr, o1_tuple_lst, o1_tuple_tup, o1_list_lst, o1_list_tup, o1_all, o1_any, o1_sum, o1_int_int, o1_int_bl, o1_int_str, o1_str_int, o1_str_str, o1_repr_int, o1_repr_bl, o1_abs, o1_isi, o1_isB, o1_notB, o1_bits, o1_rev, o1_isN_non, o1_notN_non, o1_isN_bl, o1_notN_bl, o1_isN_int, o1_notN_int, o1_isN_str, o1_notN_str, o1_isN_tup, o1_notN_tup, o1_isN_lst, o1_notN_lst, o1_isN_ref, o1_notN_ref, o1_isN_scr, o1_notN_scr, sl_tup, sl_lst, sl_str, ao_int, ao_str, it_tup, it_lst, it_str, bg_nm, bg_tup, bg_lst, bg_nil, bg_cons, rc_add, rc_sub, rc_mul, rc_fdiv, rc_mod, rc_pow, rc_band, rc_bor, rc_bxor, rc_shl, rc_shr, rc_eq, rc_ne, rc_lt, rc_le, rc_gt, rc_ge, rc_in, rc_nin, rc_idx, rc_min, rc_max, rc_count, rc_join, wi_nil, wi_cons, sm_nil, sb_non, sb_bl, sb_int, sb_str, sb_tup, sb_lst, sb_ref, sb_own, no_nil, sm_cons, no_cons]
  exact k _ _ hb3
/-! ### bytes -/
def digits (N : Int) (k : Nat) : List Int := (List.range k).map fun j => N / 256 ^ j % 256
theorem digits_snoc (N : Int) (k : Nat) : digits N (k + 1) = digits N k ++ [N / 256 ^ k % 256] := by simp [digits, List.range_succ]
theorem digits_cons (N : Int) (k : Nat) : digits N (k + 1) = (N % 256) :: digits (N / 256) k := by
  unfold digits
  rw [List.range_succ_eq_map, List.map_cons, List.map_map]
  congr 1
  · simp
  · apply List.map_congr_left
    intro j _
    simp only [Function.comp_def]
    rw [show (256 : Int) ^ j.succ = 256 * 256 ^ j by rw [Int.pow_succ, Int.mul_comm]]
    rw [Int.ediv_ediv_of_nonneg (by decide)]
def foldN (l : List Int) : Int := l.foldl (fun n b => n * 256 + b) 0
theorem foldN_snoc (l : List Int) (b : Int) : foldN (l ++ [b]) = foldN l * 256 + b := by simp [foldN]
theorem digits_fold {l : List Int} : (∀ b ∈ l, 0 ≤ b ∧ b < 256) → (digits (foldN l) l.length).reverse = l := by
  induction h : l.length generalizing l with
  | zero =>
    intro _
    have : l = [] := List.length_eq_zero_iff.mp h
    subst this
    rfl
  | succ k ih =>
    intro hb
    obtain ⟨m, b, rfl⟩ : ∃ m b, l = m ++ [b] := by
      have hne : l ≠ [] := by intro e; subst e; simp at h
      exact ⟨l.dropLast, l.getLast hne, (List.dropLast_concat_getLast hne).symm⟩
    have hm : m.length = k := by simpa using h
    have hbb := hb b (by simp)
    rw [foldN_snoc, digits_cons]
    have e1 : (foldN m * 256 + b) % 256 = b := by omega
    have e2 : (foldN m * 256 + b) / 256 = foldN m := by omega
    rw [e1, e2, List.reverse_cons]
    have := ih hm fun c hc => hb c (by simp [hc])
    rw [this]
theorem foldN_zz (l : List Int) : foldN (0 :: 0 :: l) = foldN l := by simp [foldN]
theorem bytes_of_wp {n : Nat} {N K : Int} {M : MH} {Q E} (h0 : 0 ≤ K) (hk : K < 1000) (q : Q (.tup ((digits N K.toNat).reverse.map .int)) M) : wp (callN fs E0 (n + 1) 5 [.int N, .int K] M) Q E := by
  rw [wp_call (F := f_bytes_of) rfl rfl]
  simp only [f_bytes_of, b_bytes_of]
  rw [wp_seq]
  simp [wp_nil, wp_ok, wp_bad, wp_exc, wp_bind, wp_sb, wp_opt_some, wp_opt_none, wp_opt_ite, wp_opt_bind, wp_opt_map, wp_ite, wp_calm, ex, evE, evEs, evB, evAnd, evOr, evT, evAll, evAny, evI, enter, fin1_rt, fin1_nx, fin1_xc, nx1_nx, nx1_rt, nx1_bk, nx1_ct, nx1_xc, mulOk, rngOk, D.isOwn, rs_non, rs_bl, rs_int, rs_str, rs_tup, rs_lst, rs_scr, rs_ow, o2_add_int, o2_sub_int, o2_mul_int, o2_fdiv_int, o2_mod_int, o2_pow_int, o2_band_int, o2_bor_int, o2_bxor_int, o2_shl_int, o2_shr_int, o2_lt_int, o2_le_int, o2_gt_int, o2_ge_int, o2_min_int, o2_max_int, o2_add_str, o2_add_tup, o2_add_lst, o2_mul_lst, o2_eq, o2_ne, o2_in, o2_nin, o2_idx_tup, o2_idx_lst, o2_idx_scr, o2_idx_str, o2_count, o2_join, eq_int, eq_str, eq_bl, eq_non_non, eq_non_bl, eq_non_int, eq_non_str, eq_non_tup, eq_non_lst, eq_bl_non, eq_bl_int, eq_bl_str, eq_bl_tup, eq_bl_lst, eq_int_non, eq_int_bl, eq_int_str, eq_int_tup, eq_int_lst, eq_str_non, eq_str_bl, eq_str_int, eq_str_tup, eq_str_lst, eq_tup_non, eq_tup_bl, eq_tup_int, eq_tup_str, eq_tup_tup, eq_tup_lst, eq_lst_non, eq_lst_bl, eq_lst_int, eq_lst_str, eq_lst_tup, eq_lst_lst, tr_non, tr_bl, tr_int, tr_str, tr_tup, tr_lst, ty_int_non, ty_int_bl, ty_int_int, ty_int_str, ty_int_tup, ty_int_lst, ty_bool_non, ty_bool_bl, ty_bool_int, ty_bool_str, ty_bool_tup, ty_bool_lst, ty_str_non, ty_str_bl, ty_str_int, ty_str_str, ty_str_tup, ty_str_lst, ty_tuple_non, ty_tuple_bl, ty_tuple_int, ty_tuple_str, ty_tuple_tup, ty_tuple_lst, ty_list_non, ty_list_bl, ty_list_int, ty_list_str, ty_list_tup, ty_list_lst, o1_neg, o1_not, o1_len_str, o1_len_tup, o1_len_lst, o1_len_scr, o1_tuple_lst, o1_tuple_tup, o1_list_lst, o1_list_tup, o1_all, o1_any, o1_sum, o1_int_int, o1_int_bl, o1_int_str, o1_str_int, o1_str_str, o1_repr_int, o1_repr_bl, o1_abs, o1_isi, o1_isB, o1_notB, o1_bits, o1_rev, o1_isN_non, o1_notN_non, o1_isN_bl, o1_notN_bl, o1_isN_int, o1_notN_int, o1_isN_str, o1_notN_str, o1_isN_tup, o1_notN_tup, o1_isN_lst, o1_notN_lst, o1_isN_ref, o1_notN_ref, o1_isN_scr, o1_notN_scr, sl_tup, sl_lst, sl_str, ao_int, ao_str, it_tup, it_lst, it_str, bg_nm, bg_tup, bg_lst, bg_nil, bg_cons, rc_add, rc_sub, rc_mul, rc_fdiv, rc_mod, rc_pow, rc_band, rc_bor, rc_bxor, rc_shl, rc_shr, rc_eq, rc_ne, rc_lt, rc_le, rc_gt, rc_ge, rc_in, rc_nin, rc_idx, rc_min, rc_max, rc_count, rc_join, wi_nil, wi_cons, sm_nil, sb_non, sb_bl, sb_int, sb_str, sb_tup, sb_lst, sb_ref, sb_own, no_nil, sm_cons, no_cons, sizeLine_eq]
  rw [wp_seq]
  simp [wp_nil, wp_ok, wp_bad, wp_exc, wp_bind, wp_sb, wp_opt_some, wp_opt_none, wp_opt_ite, wp_opt_bind, wp_opt_map, wp_ite, wp_calm, ex, evE, evEs, evB, evAnd, evOr, evT, evAll, evAny, evI, enter, fin1_rt, fin1_nx, fin1_xc, nx1_nx, nx1_rt, nx1_bk, nx1_ct, nx1_xc, mulOk, rngOk, D.isOwn, rs_non, rs_bl, rs_int, rs_str, rs_tup, rs_lst, rs_scr, rs_ow, o2_add_int, o2_sub_int, o2_mul_int, o2_fdiv_int, o2_mod_int, o2_pow_int, o2_band_int, o2_bor_int, o2_bxor_int, o2_shl_int, o2_shr_int, o2_lt_int, o2_le_int, o2_gt_int, o2_ge_int, o2_min_int, o2_max_int, o2_add_str, o2_add_tup, o2_add_lst, o2_mul_lst, o2_eq, o2_ne, o2_in, o2_nin, o2_idx_tup, o2_idx_lst, o2_idx_scr, o2_idx_str, o2_count, o2_join, eq_int, eq_str, eq_bl, eq_non_non, eq_non_bl, eq_non_int, eq_non_str, eq_non_tup, eq_non_lst, eq_bl_non, eq_bl_int, eq_bl_str, eq_bl_tup, eq_bl_lst, eq_int_non, eq_int_bl, eq_int_str, eq_int_tup, eq_int_lst, eq_str_non, eq_str_bl, eq_str_int, eq_str_tup, eq_str_lst, eq_tup_non, eq_tup_bl, eq_tup_int, eq_tup_str, eq_tup_tup, eq_tup_lst, eq_lst_non, eq_lst_bl, eq_lst_int, eq_lst_str, eq_lst_tup, eq_lst_lst, tr_non, tr_bl, tr_int, tr_str, tr_tup, tr_lst, ty_int_non, ty_int_bl, ty_int_int, ty_int_str, ty_int_tup, ty_int_lst, ty_bool_non, ty_bool_bl, ty_bool_int, ty_bool_str, ty_bool_tup, ty_bool_lst, ty_str_non, ty_str_bl, ty_str_int, ty_str_str, ty_str_tup, ty_str_lst, ty_tuple_non, ty_tuple_bl, ty_tuple_int, ty_tuple_str, ty_tuple_tup, ty_tuple_lst, ty_list_non, ty_list_bl, ty_list_int, ty_list_str, ty_list_tup, ty_list_lst, o1_neg, o1_not, o1_len_str, o1_len_tup, o1_len_lst, o1_len_scr, o1_tuple_lst, o1_tuple_tup, o1_list_lst, o1_list_tup, o1_all, o1_any, o1_sum, o1_int_int, o1_int_bl, o1_int_str, o1_str_int, o1_str_str, o1_repr_int, o1_repr_bl, o1_abs, o1_isi, o1_isB, o1_notB, o1_bits, o1_rev, o1_isN_non, o1_notN_non, o1_isN_bl, o1_notN_bl, o1_isN_int, o1_notN_int, o1_isN_str, o1_notN_str, o1_isN_tup, o1_notN_tup, o1_isN_lst, o1_notN_lst, o1_isN_ref, o1_notN_ref, o1_isN_scr, o1_notN_scr, sl_tup, sl_lst, sl_str, ao_int, ao_str, it_tup, it_lst, it_str, bg_nm, bg_tup, bg_lst, bg_nil, bg_cons, rc_add, rc_sub, rc_mul, rc_fdiv, rc_mod, rc_pow, rc_band, rc_bor, rc_bxor, rc_shl, rc_shr, rc_eq, rc_ne, rc_lt, rc_le, rc_gt, rc_ge, rc_in, rc_nin, rc_idx, rc_min, rc_max, rc_count, rc_join, wi_nil, wi_cons, sm_nil, sb_non, sb_bl, sb_int, sb_str, sb_tup, sb_lst, sb_ref, sb_own, no_nil, sm_cons, no_cons, sizeLine_eq]
  have hb : (-4611686018427387904 : Int) ≤ K ∧ K < 4611686018427387904 := by omega
  simp only [hb, and_self, if_true, true_and]
  obtain ⟨k, hkk⟩ : ∃ k, k = K.toNat := ⟨_, rfl⟩
  rw [← hkk] at q ⊢
  have hk2 : k < 1000 := by omega
  refine wp_loopF (fun i s M' => ∃ x, s = [.val (.int (N / 256 ^ i)), .val (.int K), .own ((digits N i).map .int), x] ∧ M' = M ∧ i ≤ k) ?h0 (fun i s M' h => rfl) (fun i x s M' hx hs => ?_) (fun s M' hs => ?_)
  case h0 => exact ⟨.no, by simp [digits]⟩
  · obtain ⟨y, rfl, rfl, hi⟩ := hs
    have hlt : i < k := by
      have := (List.getElem?_eq_some_iff.mp hx).1
      simpa [rngL_len] using this
    have hl : (digits N i).length < 16777216 := by simp [digits]; omega
    simp [wp_seq, exs, wp_nil, wp_ok, wp_bad, wp_exc, wp_bind, wp_sb, wp_opt_some, wp_opt_none, wp_opt_ite, wp_opt_bind, wp_opt_map, wp_ite, wp_calm, ex, evE, evEs, evB, evAnd, evOr, evT, evAll, evAny, evI, enter, fin1_rt, fin1_nx, fin1_xc, nx1_nx, nx1_rt, nx1_bk, nx1_ct, nx1_xc, mulOk, rngOk, D.isOwn, rs_non, rs_bl, rs_int, rs_str, rs_tup, rs_lst, rs_scr, rs_ow, o2_add_int, o2_sub_int, o2_mul_int, o2_fdiv_int, o2_mod_int, o2_pow_int, o2_band_int, o2_bor_int, o2_bxor_int, o2_shl_int, o2_shr_int, o2_lt_int, o2_le_int, o2_gt_int, o2_ge_int, o2_min_int, o2_max_int, o2_add_str, o2_add_tup, o2_add_lst, o2_mul_lst, o2_eq, o2_ne, o2_in, o2_nin, o2_idx_tup, o2_idx_lst, o2_idx_scr, o2_idx_str, o2_count, o2_join, eq_int, eq_str, eq_bl, eq_non_non, eq_non_bl, eq_non_int, eq_non_str, eq_non_tup, eq_non_lst, eq_bl_non, eq_bl_int, eq_bl_str, eq_bl_tup, eq_bl_lst, eq_int_non, eq_int_bl, eq_int_str, eq_int_tup, eq_int_lst, eq_str_non, eq_str_bl, eq_str_int, eq_str_tup, eq_str_lst, eq_tup_non, eq_tup_bl, eq_tup_int, eq_tup_str, eq_tup_tup, eq_tup_lst, eq_lst_non, eq_lst_bl, eq_lst_int, eq_lst_str, eq_lst_tup, eq_lst_lst, tr_non, tr_bl, tr_int, tr_str, tr_tup, tr_lst, ty_int_non, ty_int_bl, ty_int_int, ty_int_str, ty_int_tup, ty_int_lst, ty_bool_non, ty_bool_bl, ty_bool_int, ty_bool_str, ty_bool_tup, ty_bool_lst, ty_str_non, ty_str_bl, ty_str_int, ty_str_str, ty_str_tup, ty_str_lst, ty_tuple_non, ty_tuple_bl, ty_tuple_int, ty_tuple_str, ty_tuple_tup, ty_tuple_lst, ty_list_non, ty_list_bl, ty_list_int, ty_list_str, ty_list_tup, ty_list_lst, o1_neg, o1_not, o1_len_str, o1_len_tup, o1_len_lst, o1_len_scr, o1_tuple_lst, o1_tuple_tup, o1_list_lst, o1_list_tup, o1_all, o1_any, o1_sum, o1_int_int, o1_int_bl, o1_int_str, o1_str_int, o1_str_str, o1_repr_int, o1_repr_bl, o1_abs, o1_isi, o1_isB, o1_notB, o1_bits, o1_rev, o1_isN_non, o1_notN_non, o1_isN_bl, o1_notN_bl, o1_isN_int, o1_notN_int, o1_isN_str, o1_notN_str, o1_isN_tup, o1_notN_tup, o1_isN_lst, o1_notN_lst, o1_isN_ref, o1_notN_ref, o1_isN_scr, o1_notN_scr, sl_tup, sl_lst, sl_str, ao_int, ao_str, it_tup, it_lst, it_str, bg_nm, bg_tup, bg_lst, bg_nil, bg_cons, rc_add, rc_sub, rc_mul, rc_fdiv, rc_mod, rc_pow, rc_band, rc_bor, rc_bxor, rc_shl, rc_shr, rc_eq, rc_ne, rc_lt, rc_le, rc_gt, rc_ge, rc_in, rc_nin, rc_idx, rc_min, rc_max, rc_count, rc_join, wi_nil, wi_cons, sm_nil, sb_non, sb_bl, sb_int, sb_str, sb_tup, sb_lst, sb_ref, sb_own, no_nil, sm_cons, no_cons, sizeLine_eq, hl]
    refine ⟨by decide, ⟨?_, ?_⟩, hlt⟩
    · rw [Int.pow_succ, Int.ediv_ediv_of_nonneg (Int.pow_nonneg (by decide))]
    · rw [digits_snoc]
      simp
  · obtain ⟨y, rfl, rfl, hi⟩ := hs
    rw [rngL_len]
    simp [wp_seq, exs, wp_nil, wp_ok, wp_bad, wp_exc, wp_bind, wp_sb, wp_opt_some, wp_opt_none, wp_opt_ite, wp_opt_bind, wp_opt_map, wp_ite, wp_calm, ex, evE, evEs, evB, evAnd, evOr, evT, evAll, evAny, evI, enter, fin1_rt, fin1_nx, fin1_xc, nx1_nx, nx1_rt, nx1_bk, nx1_ct, nx1_xc, mulOk, rngOk, D.isOwn, rs_non, rs_bl, rs_int, rs_str, rs_tup, rs_lst, rs_scr, rs_ow, o2_add_int, o2_sub_int, o2_mul_int, o2_fdiv_int, o2_mod_int, o2_pow_int, o2_band_int, o2_bor_int, o2_bxor_int, o2_shl_int, o2_shr_int, o2_lt_int, o2_le_int, o2_gt_int, o2_ge_int, o2_min_int, o2_max_int, o2_add_str, o2_add_tup, o2_add_lst, o2_mul_lst, o2_eq, o2_ne, o2_in, o2_nin, o2_idx_tup, o2_idx_lst, o2_idx_scr, o2_idx_str, o2_count, o2_join, eq_int, eq_str, eq_bl, eq_non_non, eq_non_bl, eq_non_int, eq_non_str, eq_non_tup, eq_non_lst, eq_bl_non, eq_bl_int, eq_bl_str, eq_bl_tup, eq_bl_lst, eq_int_non, eq_int_bl, eq_int_str, eq_int_tup, eq_int_lst, eq_str_non, eq_str_bl, eq_str_int, eq_str_tup, eq_str_lst, eq_tup_non, eq_tup_bl, eq_tup_int, eq_tup_str, eq_tup_tup, eq_tup_lst, eq_lst_non, eq_lst_bl, eq_lst_int, eq_lst_str, eq_lst_tup, eq_lst_lst, tr_non, tr_bl, tr_int, tr_str, tr_tup, tr_lst, ty_int_non, ty_int_bl, ty_int_int, ty_int_str, ty_int_tup, ty_int_lst, ty_bool_non, ty_bool_bl, ty_bool_int, ty_bool_str, ty_bool_tup, ty_bool_lst, ty_str_non, ty_str_bl, ty_str_int, ty_str_str, ty_str_tup, ty_str_lst, ty_tuple_non, ty_tuple_bl, ty_tuple_int, ty_tuple_str, ty_tuple_tup, ty_tuple_lst, ty_list_non, ty_list_bl, ty_list_int, ty_list_str, ty_list_tup, ty_list_lst, o1_neg, o1_not, o1_len_str, o1_len_tup, o1_len_lst, o1_len_scr, o1_tuple_lst, o1_tuple_tup, o1_list_lst, o1_list_tup, o1_all, o1_any, o1_sum, o1_int_int, o1_int_bl, o1_int_str, o1_str_int, o1_str_str, o1_repr_int, o1_repr_bl, o1_abs, o1_isi, o1_isB, o1_notB, o1_bits, o1_rev, o1_isN_non, o1_notN_non, o1_isN_bl, o1_notN_bl, o1_isN_int, o1_notN_int, o1_isN_str, o1_notN_str, o1_isN_tup, o1_notN_tup, o1_isN_lst, o1_notN_lst, o1_isN_ref, o1_notN_ref, o1_isN_scr, o1_notN_scr, sl_tup, sl_lst, sl_str, ao_int, ao_str, it_tup, it_lst, it_str, bg_nm, bg_tup, bg_lst, bg_nil, bg_cons, rc_add, rc_sub, rc_mul, rc_fdiv, rc_mod, rc_pow, rc_band, rc_bor, rc_bxor, rc_shl, rc_shr, rc_eq, rc_ne, rc_lt, rc_le, rc_gt, rc_ge, rc_in, rc_nin, rc_idx, rc_min, rc_max, rc_count, rc_join, wi_nil, wi_cons, sm_nil, sb_non, sb_bl, sb_int, sb_str, sb_tup, sb_lst, sb_ref, sb_own, no_nil, sm_cons, no_cons, sizeLine_eq]
    simpa using q
theorem number_of_wp {n : Nat} {l : List Int} {M : MH} {Q E} (q : Q (.int (foldN l)) M) : wp (callN fs E0 (n + 1) 6 [.tup (l.map .int)] M) Q E := by
  rw [wp_call (F := f_number_of) rfl rfl]
  simp only [f_number_of, b_number_of]
  rw [wp_seq]
  simp [wp_nil, wp_ok, wp_bad, wp_exc, wp_bind, wp_sb, wp_opt_some, wp_opt_none, wp_opt_ite, wp_opt_bind, wp_opt_map, wp_ite, wp_calm, ex, evE, evEs, evB, evAnd, evOr, evT, evAll, evAny, evI, enter, fin1_rt, fin1_nx, fin1_xc, nx1_nx, nx1_rt, nx1_bk, nx1_ct, nx1_xc, mulOk, rngOk, D.isOwn, rs_non, rs_bl, rs_int, rs_str, rs_tup, rs_lst, rs_scr, rs_ow, o2_add_int, o2_sub_int, o2_mul_int, o2_fdiv_int, o2_mod_int, o2_pow_int, o2_band_int, o2_bor_int, o2_bxor_int, o2_shl_int, o2_shr_int, o2_lt_int, o2_le_int, o2_gt_int, o2_ge_int, o2_min_int, o2_max_int, o2_add_str, o2_add_tup, o2_add_lst, o2_mul_lst, o2_eq, o2_ne, o2_in, o2_nin, o2_idx_tup, o2_idx_lst, o2_idx_scr, o2_idx_str, o2_count, o2_join, eq_int, eq_str, eq_bl, eq_non_non, eq_non_bl, eq_non_int, eq_non_str, eq_non_tup, eq_non_lst, eq_bl_non, eq_bl_int, eq_bl_str, eq_bl_tup, eq_bl_lst, eq_int_non, eq_int_bl, eq_int_str, eq_int_tup, eq_int_lst, eq_str_non, eq_str_bl, eq_str_int, eq_str_tup, eq_str_lst, eq_tup_non, eq_tup_bl, eq_tup_int, eq_tup_str, eq_tup_tup, eq_tup_lst, eq_lst_non, eq_lst_bl, eq_lst_int, eq_lst_str, eq_lst_tup, eq_lst_lst, tr_non, tr_bl, tr_int, tr_str, tr_tup, tr_lst, ty_int_non, ty_int_bl, ty_int_int, ty_int_str, ty_int_tup, ty_int_lst, ty_bool_non, ty_bool_bl, ty_bool_int, ty_bool_str, ty_bool_tup, ty_bool_lst, ty_str_non, ty_str_bl, ty_str_int, ty_str_str, ty_str_tup, ty_str_lst, ty_tuple_non, ty_tuple_bl, ty_tuple_int, ty_tuple_str, ty_tuple_tup, ty_tuple_lst, ty_list_non, ty_list_bl, ty_list_int, ty_list_str, ty_list_tup, ty_list_lst, o1_neg, o1_not, o1_len_str, o1_len_tup, o1_len_lst, o1_len_scr, o1_tuple_lst, o1_tuple_tup, o1_list_lst, o1_list_tup, o1_all, o1_any, o1_sum, o1_int_int, o1_int_bl, o1_int_str, o1_str_int, o1_str_str, o1_repr_int, o1_repr_bl, o1_abs, o1_isi, o1_isB, o1_notB, o1_bits, o1_rev, o1_isN_non, o1_notN_non, o1_isN_bl, o1_notN_bl, o1_isN_int, o1_notN_int, o1_isN_str, o1_notN_str, o1_isN_tup, o1_notN_tup, o1_isN_lst, o1_notN_lst, o1_isN_ref, o1_notN_ref, o1_isN_scr, o1_notN_scr, sl_tup, sl_lst, sl_str, ao_int, ao_str, it_tup, it_lst, it_str, bg_nm, bg_tup, bg_lst, bg_nil, bg_cons, rc_add, rc_sub, rc_mul, rc_fdiv, rc_mod, rc_pow, rc_band, rc_bor, rc_bxor, rc_shl, rc_shr, rc_eq, rc_ne, rc_lt, rc_le, rc_gt, rc_ge, rc_in, rc_nin, rc_idx, rc_min, rc_max, rc_count, rc_join, wi_nil, wi_cons, sm_nil, sb_non, sb_bl, sb_int, sb_str, sb_tup, sb_lst, sb_ref, sb_own, no_nil, sm_cons, no_cons]
  rw [wp_seq]
  simp [wp_nil, wp_ok, wp_bad, wp_exc, wp_bind, wp_sb, wp_opt_some, wp_opt_none, wp_opt_ite, wp_opt_bind, wp_opt_map, wp_ite, wp_calm, ex, evE, evEs, evB, evAnd, evOr, evT, evAll, evAny, evI, enter, fin1_rt, fin1_nx, fin1_xc, nx1_nx, nx1_rt, nx1_bk, nx1_ct, nx1_xc, mulOk, rngOk, D.isOwn, rs_non, rs_bl, rs_int, rs_str, rs_tup, rs_lst, rs_scr, rs_ow, o2_add_int, o2_sub_int, o2_mul_int, o2_fdiv_int, o2_mod_int, o2_pow_int, o2_band_int, o2_bor_int, o2_bxor_int, o2_shl_int, o2_shr_int, o2_lt_int, o2_le_int, o2_gt_int, o2_ge_int, o2_min_int, o2_max_int, o2_add_str, o2_add_tup, o2_add_lst, o2_mul_lst, o2_eq, o2_ne, o2_in, o2_nin, o2_idx_tup, o2_idx_lst, o2_idx_scr, o2_idx_str, o2_count, o2_join, eq_int, eq_str, eq_bl, eq_non_non, eq_non_bl, eq_non_int, eq_non_str, eq_non_tup, eq_non_lst, eq_bl_non, eq_bl_int, eq_bl_str, eq_bl_tup, eq_bl_lst, eq_int_non, eq_int_bl, eq_int_str, eq_int_tup, eq_int_lst, eq_str_non, eq_str_bl, eq_str_int, eq_str_tup, eq_str_lst, eq_tup_non, eq_tup_bl, eq_tup_int, eq_tup_str, eq_tup_tup, eq_tup_lst, eq_lst_non, eq_lst_bl, eq_lst_int, eq_lst_str, eq_lst_tup, eq_lst_lst, tr_non, tr_bl, tr_int, tr_str, tr_tup, tr_lst, ty_int_non, ty_int_bl, ty_int_int, ty_int_str, ty_int_tup, ty_int_lst, ty_bool_non, ty_bool_bl, ty_bool_int, ty_bool_str, ty_bool_tup, ty_bool_lst, ty_str_non, ty_str_bl, ty_str_int, ty_str_str, ty_str_tup, ty_str_lst, ty_tuple_non, ty_tuple_bl, ty_tuple_int, ty_tuple_str, ty_tuple_tup, ty_tuple_lst, ty_list_non, ty_list_bl, ty_list_int, ty_list_str, ty_list_tup, ty_list_lst, o1_neg, o1_not, o1_len_str, o1_len_tup, o1_len_lst, o1_len_scr, o1_tuple_lst, o1_tuple_tup, o1_list_lst, o1_list_tup, o1_all, o1_any, o1_sum, o1_int_int, o1_int_bl, o1_int_str, o1_str_int, o1_str_str, o1_repr_int, o1_repr_bl, o1_abs, o1_isi, o1_isB, o1_notB, o1_bits, o1_rev, o1_isN_non, o1_notN_non, o1_isN_bl, o1_notN_bl, o1_isN_int, o1_notN_int, o1_isN_str, o1_notN_str, o1_isN_tup, o1_notN_tup, o1_isN_lst, o1_notN_lst, o1_isN_ref, o1_notN_ref, o1_isN_scr, o1_notN_scr, sl_tup, sl_lst, sl_str, ao_int, ao_str, it_tup, it_lst, it_str, bg_nm, bg_tup, bg_lst, bg_nil, bg_cons, rc_add, rc_sub, rc_mul, rc_fdiv, rc_mod, rc_pow, rc_band, rc_bor, rc_bxor, rc_shl, rc_shr, rc_eq, rc_ne, rc_lt, rc_le, rc_gt, rc_ge, rc_in, rc_nin, rc_idx, rc_min, rc_max, rc_count, rc_join, wi_nil, wi_cons, sm_nil, sb_non, sb_bl, sb_int, sb_str, sb_tup, sb_lst, sb_ref, sb_own, no_nil, sm_cons, no_cons]
  refine wp_loopF (fun i s M' => ∃ x, s = [.val (.tup (l.map .int)), .val (.int (foldN (l.take i))), x] ∧ M' = M) ?h0 (fun i s M' h => rfl) (fun i x s M' hx hs => ?_) (fun s M' hs => ?_)
  case h0 => exact ⟨.no, by simp [foldN]⟩
  · obtain ⟨y, rfl, rfl⟩ := hs
    rw [List.getElem?_map] at hx
    cases e : l[i]? with
    | none => rw [e] at hx; cases hx
    | some b =>
      rw [e] at hx
      cases hx
      simp [wp_seq, exs, wp_nil, wp_ok, wp_bad, wp_exc, wp_bind, wp_sb, wp_opt_some, wp_opt_none, wp_opt_ite, wp_opt_bind, wp_opt_map, wp_ite, wp_calm, ex, evE, evEs, evB, evAnd, evOr, evT, evAll, evAny, evI, enter, fin1_rt, fin1_nx, fin1_xc, nx1_nx, nx1_rt, nx1_bk, nx1_ct, nx1_xc, mulOk, rngOk, D.isOwn, rs_non, rs_bl, rs_int, rs_str, rs_tup, rs_lst, rs_scr, rs_ow, o2_add_int, o2_sub_int, o2_mul_int, o2_fdiv_int, o2_mod_int, o2_pow_int, o2_band_int, o2_bor_int, o2_bxor_int, o2_shl_int, o2_shr_int, o2_lt_int, o2_le_int, o2_gt_int, o2_ge_int, o2_min_int, o2_max_int, o2_add_str, o2_add_tup, o2_add_lst, o2_mul_lst, o2_eq, o2_ne, o2_in, o2_nin, o2_idx_tup, o2_idx_lst, o2_idx_scr, o2_idx_str, o2_count, o2_join, eq_int, eq_str, eq_bl, eq_non_non, eq_non_bl, eq_non_int, eq_non_str, eq_non_tup, eq_non_lst, eq_bl_non, eq_bl_int, eq_bl_str, eq_bl_tup, eq_bl_lst, eq_int_non, eq_int_bl, eq_int_str, eq_int_tup, eq_int_lst, eq_str_non, eq_str_bl, eq_str_int, eq_str_tup, eq_str_lst, eq_tup_non, eq_tup_bl, eq_tup_int, eq_tup_str, eq_tup_tup, eq_tup_lst, eq_lst_non, eq_lst_bl, eq_lst_int, eq_lst_str, eq_lst_tup, eq_lst_lst, tr_non, tr_bl, tr_int, tr_str, tr_tup, tr_lst, ty_int_non, ty_int_bl, ty_int_int, ty_int_str, ty_int_tup, ty_int_lst, ty_bool_non, ty_bool_bl, ty_bool_int, ty_bool_str, ty_bool_tup, ty_bool_lst, ty_str_non, ty_str_bl, ty_str_int, ty_str_str, ty_str_tup, ty_str_lst, ty_tuple_non, ty_tuple_bl, ty_tuple_int, ty_tuple_str, ty_tuple_tup, ty_tuple_lst, ty_list_non, ty_list_bl, ty_list_int, ty_list_str, ty_list_tup, ty_list_lst, o1_neg, o1_not, o1_len_str, o1_len_tup, o1_len_lst, o1_len_scr, o1_tuple_lst, o1_tuple_tup, o1_list_lst, o1_list_tup, o1_all, o1_any, o1_sum, o1_int_int, o1_int_bl, o1_int_str, o1_str_int, o1_str_str, o1_repr_int, o1_repr_bl, o1_abs, o1_isi, o1_isB, o1_notB, o1_bits, o1_rev, o1_isN_non, o1_notN_non, o1_isN_bl, o1_notN_bl, o1_isN_int, o1_notN_int, o1_isN_str, o1_notN_str, o1_isN_tup, o1_notN_tup, o1_isN_lst, o1_notN_lst, o1_isN_ref, o1_notN_ref, o1_isN_scr, o1_notN_scr, sl_tup, sl_lst, sl_str, ao_int, ao_str, it_tup, it_lst, it_str, bg_nm, bg_tup, bg_lst, bg_nil, bg_cons, rc_add, rc_sub, rc_mul, rc_fdiv, rc_mod, rc_pow, rc_band, rc_bor, rc_bxor, rc_shl, rc_shr, rc_eq, rc_ne, rc_lt, rc_le, rc_gt, rc_ge, rc_in, rc_nin, rc_idx, rc_min, rc_max, rc_count, rc_join, wi_nil, wi_cons, sm_nil, sb_non, sb_bl, sb_int, sb_str, sb_tup, sb_lst, sb_ref, sb_own, no_nil, sm_cons, no_cons]
      rw [List.take_succ, e]
      exact (foldN_snoc _ _).symm
  · obtain ⟨y, rfl, rfl⟩ := hs
    rw [List.length_map, List.take_length]
    simp [wp_seq, exs, wp_nil, wp_ok, wp_bad, wp_exc, wp_bind, wp_sb, wp_opt_some, wp_opt_none, wp_opt_ite, wp_opt_bind, wp_opt_map, wp_ite, wp_calm, ex, evE, evEs, evB, evAnd, evOr, evT, evAll, evAny, evI, enter, fin1_rt, fin1_nx, fin1_xc, nx1_nx, nx1_rt, nx1_bk, nx1_ct, nx1_xc, mulOk, rngOk, D.isOwn, rs_non, rs_bl, rs_int, rs_str, rs_tup, rs_lst, rs_scr, rs_ow, o2_add_int, o2_sub_int, o2_mul_int, o2_fdiv_int, o2_mod_int, o2_pow_int, o2_band_int, o2_bor_int, o2_bxor_int, o2_shl_int, o2_shr_int, o2_lt_int, o2_le_int, o2_gt_int, o2_ge_int, o2_min_int, o2_max_int, o2_add_str, o2_add_tup, o2_add_lst, o2_mul_lst, o2_eq, o2_ne, o2_in, o2_nin, o2_idx_tup, o2_idx_lst, o2_idx_scr, o2_idx_str, o2_count, o2_join, eq_int, eq_str, eq_bl, eq_non_non, eq_non_bl, eq_non_int, eq_non_str, eq_non_tup, eq_non_lst, eq_bl_non, eq_bl_int, eq_bl_str, eq_bl_tup, eq_bl_lst, eq_int_non, eq_int_bl, eq_int_str, eq_int_tup, eq_int_lst, eq_str_non, eq_str_bl, eq_str_int, eq_str_tup, eq_str_lst, eq_tup_non, eq_tup_bl, eq_tup_int, eq_tup_str, eq_tup_tup, eq_tup_lst, eq_lst_non, eq_lst_bl, eq_lst_int, eq_lst_str, eq_lst_tup, eq_lst_lst, tr_non, tr_bl, tr_int, tr_str, tr_tup, tr_lst, ty_int_non, ty_int_bl, ty_int_int, ty_int_str, ty_int_tup, ty_int_lst, ty_bool_non, ty_bool_bl, ty_bool_int, ty_bool_str, ty_bool_tup, ty_bool_lst, ty_str_non, ty_str_bl, ty_str_int, ty_str_str, ty_str_tup, ty_str_lst, ty_tuple_non, ty_tuple_bl, ty_tuple_int, ty_tuple_str, ty_tuple_tup, ty_tuple_lst, ty_list_non, ty_list_bl, ty_list_int, ty_list_str, ty_list_tup, ty_list_lst, o1_neg, o1_not, o1_len_str, o1_len_tup, o1_len_lst, o1_len_scr, o1_tuple_lst, o1_tuple_tup, o1_list_lst, o1_list_tup, o1_all, o1_any, o1_sum, o1_int_int, o1_int_bl, o1_int_str, o1_str_int, o1_str_str, o1_repr_int, o1_repr_bl, o1_abs, o1_isi, o1_isB, o1_notB, o1_bits, o1_rev, o1_isN_non, o1_notN_non, o1_isN_bl, o1_notN_bl, o1_isN_int, o1_notN_int, o1_isN_str, o1_notN_str, o1_isN_tup, o1_notN_tup, o1_isN_lst, o1_notN_lst, o1_isN_ref, o1_notN_ref, o1_isN_scr, o1_notN_scr, sl_tup, sl_lst, sl_str, ao_int, ao_str, it_tup, it_lst, it_str, bg_nm, bg_tup, bg_lst, bg_nil, bg_cons, rc_add, rc_sub, rc_mul, rc_fdiv, rc_mod, rc_pow, rc_band, rc_bor, rc_bxor, rc_shl, rc_shr, rc_eq, rc_ne, rc_lt, rc_le, rc_gt, rc_ge, rc_in, rc_nin, rc_idx, rc_min, rc_max, rc_count, rc_join, wi_nil, wi_cons, sm_nil, sb_non, sb_bl, sb_int, sb_str, sb_tup, sb_lst, sb_ref, sb_own, no_nil, sm_cons, no_cons]
    exact q
def isIb (l : List D) : Bool := l.all fun d => isInt d 0 255
theorem mapM_bl {l : List D} (f : D → Bool) : (l.map fun d => D.bl (f d)).mapM D.bool? = some (l.map f) := by
  induction l with
  | nil => rfl
  | cons d l ih =>
    rw [List.map_cons, List.mapM_cons, ih]
    rfl
theorem is_bytes_wp {n : Nat} {l : List D} {M : MH} {Q E} (hp : l.all plain = true) (hl : l.length < 1000) (q : Q (.bl (isIb l)) M) : wp (callN fs E0 (n + 2) 2 [.tup l] M) Q E := by
  rw [wp_call (F := f_is_bytes) rfl rfl]
  simp only [f_is_bytes, b_is_bytes]
  rw [wp_seq]
  have hl2 : l.length ≤ 16777216 := by omega
  simp [wp_nil, wp_ok, wp_bad, wp_exc, wp_bind, wp_sb, wp_opt_some, wp_opt_none, wp_opt_ite, wp_opt_bind, wp_opt_map, wp_ite, wp_calm, ex, evE, evEs, evB, evAnd, evOr, evT, evAll, evAny, evI, enter, fin1_rt, fin1_nx, fin1_xc, nx1_nx, nx1_rt, nx1_bk, nx1_ct, nx1_xc, mulOk, rngOk, D.isOwn, rs_non, rs_bl, rs_int, rs_str, rs_tup, rs_lst, rs_scr, rs_ow, o2_add_int, o2_sub_int, o2_mul_int, o2_fdiv_int, o2_mod_int, o2_pow_int, o2_band_int, o2_bor_int, o2_bxor_int, o2_shl_int, o2_shr_int, o2_lt_int, o2_le_int, o2_gt_int, o2_ge_int, o2_min_int, o2_max_int, o2_add_str, o2_add_tup, o2_add_lst, o2_mul_lst, o2_eq, o2_ne, o2_in, o2_nin, o2_idx_tup, o2_idx_lst, o2_idx_scr, o2_idx_str, o2_count, o2_join, eq_int, eq_str, eq_bl, eq_non_non, eq_non_bl, eq_non_int, eq_non_str, eq_non_tup, eq_non_lst, eq_bl_non, eq_bl_int, eq_bl_str, eq_bl_tup, eq_bl_lst, eq_int_non, eq_int_bl, eq_int_str, eq_int_tup, eq_int_lst, eq_str_non, eq_str_bl, eq_str_int, eq_str_tup, eq_str_lst, eq_tup_non, eq_tup_bl, eq_tup_int, eq_tup_str, eq_tup_tup, eq_tup_lst, eq_lst_non, eq_lst_bl, eq_lst_int, eq_lst_str, eq_lst_tup, eq_lst_lst, tr_non, tr_bl, tr_int, tr_str, tr_tup, tr_lst, ty_int_non, ty_int_bl, ty_int_int, ty_int_str, ty_int_tup, ty_int_lst, ty_bool_non, ty_bool_bl, ty_bool_int, ty_bool_str, ty_bool_tup, ty_bool_lst, ty_str_non, ty_str_bl, ty_str_int, ty_str_str, ty_str_tup, ty_str_lst, ty_tuple_non, ty_tuple_bl, ty_tuple_int, ty_tuple_str, ty_tuple_tup, ty_tuple_lst, ty_list_non, ty_list_bl, ty_list_int, ty_list_str, ty_list_tup, ty_list_lst, o1_neg, o1_not, o1_len_str, o1_len_tup, o1_len_lst, o1_len_scr, o1_tuple_lst, o1_tuple_tup, o1_list_lst, o1_list_tup, o1_all, o1_any, o1_sum, o1_int_int, o1_int_bl, o1_int_str, o1_str_int, o1_str_str, o1_repr_int, o1_repr_bl, o1_abs, o1_isi, o1_isB, o1_notB, o1_bits, o1_rev, o1_isN_non, o1_notN_non, o1_isN_bl, o1_notN_bl, o1_isN_int, o1_notN_int, o1_isN_str, o1_notN_str, o1_isN_tup, o1_notN_tup, o1_isN_lst, o1_notN_lst, o1_isN_ref, o1_notN_ref, o1_isN_scr, o1_notN_scr, sl_tup, sl_lst, sl_str, ao_int, ao_str, it_tup, it_lst, it_str, bg_nm, bg_tup, bg_lst, bg_nil, bg_cons, rc_add, rc_sub, rc_mul, rc_fdiv, rc_mod, rc_pow, rc_band, rc_bor, rc_bxor, rc_shl, rc_shr, rc_eq, rc_ne, rc_lt, rc_le, rc_gt, rc_ge, rc_in, rc_nin, rc_idx, rc_min, rc_max, rc_count, rc_join, wi_nil, wi_cons, sm_nil, sb_non, sb_bl, sb_int, sb_str, sb_tup, sb_lst, sb_ref, sb_own, no_nil, sm_cons, no_cons, sizeLine_eq, hl2]
  have ht : ∀ x ∈ l, ((callN fs E0 (n + 1) 0 [x, D.int 0, D.int 255] M).bind fun d M => Res.ok (some d) M) = .ok (some (.bl (isInt x 0 255))) M := fun x hx => by
    have e : callN fs E0 (n + 1) 0 [x, D.int 0, D.int 255] M = .ok (.bl (isInt x 0 255)) M := eq_of_wp (by
      rw [is_integer_eq n x (List.all_eq_true.mp hp x hx)]
      exact ⟨rfl, rfl⟩)
    rw [e]; rfl
  rw [wp_loopC_map (fun x => .bl (isInt x 0 255)) rfl ht, mapM_bl, wp_opt_some]
  have e : (l.map fun x => isInt x 0 255).all id = isIb l := by simp [isIb, List.all_map, Function.comp_def]
  rw [e]
  exact q
theorem is_bytes_lst {n : Nat} {l : List D} {M : MH} {Q E} (q : Q (.bl false) M) : wp (callN fs E0 (n + 2) 2 [.lst l] M) Q E := by
  rw [wp_call (F := f_is_bytes) rfl rfl]
  simp only [f_is_bytes, b_is_bytes]
  rw [wp_seq]
  simp [wp_nil, wp_ok, wp_bad, wp_exc, wp_bind, wp_sb, wp_opt_some, wp_opt_none, wp_opt_ite, wp_opt_bind, wp_opt_map, wp_ite, wp_calm, ex, evE, evEs, evB, evAnd, evOr, evT, evAll, evAny, evI, enter, fin1_rt, fin1_nx, fin1_xc, nx1_nx, nx1_rt, nx1_bk, nx1_ct, nx1_xc, mulOk, rngOk, D.isOwn, rs_non, rs_bl, rs_int, rs_str, rs_tup, rs_lst, rs_scr, rs_ow, o2_add_int, o2_sub_int, o2_mul_int, o2_fdiv_int, o2_mod_int, o2_pow_int, o2_band_int, o2_bor_int, o2_bxor_int, o2_shl_int, o2_shr_int, o2_lt_int, o2_le_int, o2_gt_int, o2_ge_int, o2_min_int, o2_max_int, o2_add_str, o2_add_tup, o2_add_lst, o2_mul_lst, o2_eq, o2_ne, o2_in, o2_nin, o2_idx_tup, o2_idx_lst, o2_idx_scr, o2_idx_str, o2_count, o2_join, eq_int, eq_str, eq_bl, eq_non_non, eq_non_bl, eq_non_int, eq_non_str, eq_non_tup, eq_non_lst, eq_bl_non, eq_bl_int, eq_bl_str, eq_bl_tup, eq_bl_lst, eq_int_non, eq_int_bl, eq_int_str, eq_int_tup, eq_int_lst, eq_str_non, eq_str_bl, eq_str_int, eq_str_tup, eq_str_lst, eq_tup_non, eq_tup_bl, eq_tup_int, eq_tup_str, eq_tup_tup, eq_tup_lst, eq_lst_non, eq_lst_bl, eq_lst_int, eq_lst_str, eq_lst_tup, eq_lst_lst, tr_non, tr_bl, tr_int, tr_str, tr_tup, tr_lst, ty_int_non, ty_int_bl, ty_int_int, ty_int_str, ty_int_tup, ty_int_lst, ty_bool_non, ty_bool_bl, ty_bool_int, ty_bool_str, ty_bool_tup, ty_bool_lst, ty_str_non, ty_str_bl, ty_str_int, ty_str_str, ty_str_tup, ty_str_lst, ty_tuple_non, ty_tuple_bl, ty_tuple_int, ty_tuple_str, ty_tuple_tup, ty_tuple_lst, ty_list_non, ty_list_bl, ty_list_int, ty_list_str, ty_list_tup, ty_list_lst, o1_neg, o1_not, o1_len_str, o1_len_tup, o1_len_lst, o1_len_scr, o1_tuple_lst, o1_tuple_tup, o1_list_lst, o1_list_tup, o1_all, o1_any, o1_sum, o1_int_int, o1_int_bl, o1_int_str, o1_str_int, o1_str_str, o1_repr_int, o1_repr_bl, o1_abs, o1_isi, o1_isB, o1_notB, o1_bits, o1_rev, o1_isN_non, o1_notN_non, o1_isN_bl, o1_notN_bl, o1_isN_int, o1_notN_int, o1_isN_str, o1_notN_str, o1_isN_tup, o1_notN_tup, o1_isN_lst, o1_notN_lst, o1_isN_ref, o1_notN_ref, o1_isN_scr, o1_notN_scr, sl_tup, sl_lst, sl_str, ao_int, ao_str, it_tup, it_lst, it_str, bg_nm, bg_tup, bg_lst, bg_nil, bg_cons, rc_add, rc_sub, rc_mul, rc_fdiv, rc_mod, rc_pow, rc_band, rc_bor, rc_bxor, rc_shl, rc_shr, rc_eq, rc_ne, rc_lt, rc_le, rc_gt, rc_ge, rc_in, rc_nin, rc_idx, rc_min, rc_max, rc_count, rc_join, wi_nil, wi_cons, sm_nil, sb_non, sb_bl, sb_int, sb_str, sb_tup, sb_lst, sb_ref, sb_own, no_nil, sm_cons, no_cons]
  exact q
end MPL

set_option Elab.async false
set_option linter.all false
set_option maxRecDepth 100000
set_option maxHeartbeats 2000000
open MP PySem
namespace MPL
/-- a statement that only tests -/
theorem wp_test {R : MP.Env} {st : MS} {s : Sl} {M : MH} {Q : MP.Flow → MH → Prop} {E : Nat → List D → MH → Prop} (h : wp (ex R st s M) (fun f M' => f = .nx s ∧ M' = M) (fun _ _ _ => False)) (q : Q (.nx s) M) : wp (ex R st s M) Q E := by
  obtain ⟨f, M', e, rfl, rfl⟩ := wp_get h
  exact wp_eq e q
theorem wp_st {r : Res MP.Flow} {Q : MP.Flow → MH → Prop} {E : Nat → List D → MH → Prop} (P : MP.Flow → MH → Prop) (h : wp r P (fun _ _ _ => False)) (q : ∀ f M, P f M → Q f M) : wp r Q E := by
  obtain ⟨f, M', e, p⟩ := wp_get h
  exact wp_eq e (q f M' p)
theorem mem_cut {α : Type} {xs : List α} {a b : Option Int} {x : α} (h : x ∈ cut xs a b) : x ∈ xs := List.mem_of_mem_drop (List.mem_of_mem_take h)
theorem cut_len {α : Type} (xs : List α) (a b : Option Int) : (cut xs a b).length ≤ xs.length := by
  unfold cut
  rw [List.length_take, List.length_drop]
  omega
theorem plain_ints (l : List Int) : (l.map D.int).all plain = true := by simp [plain]
theorem isIb_ints {l : List Int} (h : ∀ b ∈ l, 0 ≤ b ∧ b < 256) : isIb (l.map .int) = true := by
  simp only [isIb, List.all_map, List.all_eq_true]
  intro b hb
  have := h b hb
  simp [isInt]
  omega
theorem isIb_bad {A B : List D} {d : D} (h : isInt d 0 255 = false) : isIb (A ++ d :: B) = false := by
  simp [isIb, h]
def MSd : Nat → MSs → MSs
  | 0, b => b
  | n + 1, .cons _ r => MSd n r
  | _, .nil => .nil
def lawBody : MSs := match b_law with
  | .cons (.for _ _ b) _ => b
  | _ => .nil
/-- what the law's own calls do -/
structure Specs (R : MP.Env) : Prop where
  isint : ∀ (v : D), plain v = true → ∀ (lo hi : Int) (M : MH) (Q : D → MH → Prop) (E : Nat → List D → MH → Prop), wp (R.call 0 [v, .int lo, .int hi] M) Q E = Q (.bl (isInt v lo hi)) M
  isnum : ∀ (v : D), plain v = true → ∀ (M : MH) (Q : D → MH → Prop) (E : Nat → List D → MH → Prop), wp (R.call 1 [v] M) Q E = Q (.bl (isInt v (-2147483648) 2147483647)) M
  isby : ∀ {l : List D} {M : MH} {Q : D → MH → Prop} {E : Nat → List D → MH → Prop}, l.all plain = true → l.length < 1000 → Q (.bl (isIb l)) M → wp (R.call 2 [.tup l] M) Q E
  isbl : ∀ {l : List D} {M : MH} {Q : D → MH → Prop} {E : Nat → List D → MH → Prop}, Q (.bl false) M → wp (R.call 2 [.lst l] M) Q E
  wrap : ∀ (i : Int) (M : MH) (Q : D → MH → Prop) (E : Nat → List D → MH → Prop), wp (R.call 3 [.int i] M) Q E = Q (.int ((i - -2147483648) % 4294967296 + -2147483648)) M
  clip : ∀ (i lo hi : Int) (M : MH) (Q : D → MH → Prop) (E : Nat → List D → MH → Prop), wp (R.call 4 [.int i, .int lo, .int hi] M) Q E = Q (.int (clipI i lo hi)) M
  bytes : ∀ {N K : Int} {M : MH} {Q : D → MH → Prop} {E : Nat → List D → MH → Prop}, 0 ≤ K → K < 1000 → Q (.tup ((digits N K.toNat).reverse.map .int)) M → wp (R.call 5 [.int N, .int K] M) Q E
  number : ∀ {l : List Int} {M : MH} {Q : D → MH → Prop} {E : Nat → List D → MH → Prop}, Q (.int (foldN l)) M → wp (R.call 6 [.tup (l.map .int)] M) Q E
  bag : ∀ {ns : List Int} {K : Int} {M : MH} {Q : D → MH → Prop} {E : Nat → List D → MH → Prop}, 0 ≤ K → (∀ M' r, Bag M' r → Q (.ref r) M') → wp (R.call 7 [.scr ns, .int K] M) Q E
  draw : ∀ {r : Nat} {many : Int} {M : MH} {Q : D → MH → Prop} {E : Nat → List D → MH → Prop}, Bag M r → 1 ≤ many → many.natAbs.log2 < 9000 → (∀ x M', 0 ≤ x → x < many → Bag M' r → Q (.int x) M') → wp (R.call 8 [.ref r, .int many] M) Q E
  one : ∀ {r : Nat} {l : List D} {M : MH} {Q : D → MH → Prop} {E : Nat → List D → MH → Prop}, Bag M r → 1 ≤ l.length → l.length < 1000 → (∀ d M', d ∈ l → Bag M' r → Q d M') → wp (R.call 9 [.ref r, .lst l] M) Q E
  integer : ∀ {r : Nat} {M : MH} {Q : D → MH → Prop} {E : Nat → List D → MH → Prop}, Bag M r → (∀ i M', Bag M' r → Q (.int i) M') → wp (R.call 10 [.ref r] M) Q E
theorem tail_wp {R : MP.Env} {s0 s1 s3 s4 s5 s6 s7 s10 s11 s12 : MP.Slot} {r : Nat} {l : List Int} {M : MH} {Q E} (h : Specs R) (hb : Bag M r) (hl2 : l.length < 20) (hb1 : ∀ b ∈ l, 0 ≤ b ∧ b < 256) (q : ∀ x M', Q (.nx [s0, s1, .val (.ref r), s3, s4, s5, s6, s7, .val (.lst (l.map .int)), .val (.int (foldN l)), s10, x, s12]) M') :
    wp (exs R (MSd 13 lawBody) [s0, s1, .val (.ref r), s3, s4, s5, s6, s7, .val (.lst (l.map .int)), .val (.int (foldN l)), s10, s11, s12] M) Q E := by
  simp only [MSd, lawBody, b_law]
  have hsh := sh_ints l
  have hev := eqv_self hsh
  have hdig := digits_fold hb1
  have hb2 : ∀ b ∈ (0 :: 0 :: l), 0 ≤ b ∧ b < 256 := by
    intro b hb
    rcases List.mem_cons.mp hb with q | q
    · subst q; decide
    · rcases List.mem_cons.mp q with q | q
      · subst q; decide
      · exact hb1 b q
  have hdig2 := digits_fold hb2
  rw [foldN_zz] at hdig2
  have hsh2 := sh_ints (0 :: 0 :: l)
  have hev2 := eqv_self hsh2
  rw [wp_seq]
  refine wp_test ?_ ?_
  · simp [wp_nil, wp_ok, wp_bad, wp_exc, wp_bind, wp_sb, wp_opt_some, wp_opt_none, wp_opt_ite, wp_opt_bind, wp_opt_map, wp_ite, wp_calm, ex, evE, evEs, evB, evAnd, evOr, evT, evAll, evAny, evI, enter, fin1_rt, fin1_nx, fin1_xc, nx1_nx, nx1_rt, nx1_bk, nx1_ct, nx1_xc, mulOk, rngOk, D.isOwn, rs_non, rs_bl, rs_int, rs_str, rs_tup, rs_lst, rs_scr, rs_ow, o2_add_int, o2_sub_int, o2_mul_int, o2_fdiv_int, o2_mod_int, o2_pow_int, o2_band_int, o2_bor_int, o2_bxor_int, o2_shl_int, o2_shr_int, o2_lt_int, o2_le_int, o2_gt_int, o2_ge_int, o2_min_int, o2_max_int, o2_add_str, o2_add_tup, o2_add_lst, o2_mul_lst, o2_eq, o2_ne, o2_in, o2_nin, o2_idx_tup, o2_idx_lst, o2_idx_scr, o2_idx_str, o2_count, o2_join, eq_int, eq_str, eq_bl, eq_non_non, eq_non_bl, eq_non_int, eq_non_str, eq_non_tup, eq_non_lst, eq_bl_non, eq_bl_int, eq_bl_str, eq_bl_tup, eq_bl_lst, eq_int_non, eq_int_bl, eq_int_str, eq_int_tup, eq_int_lst, eq_str_non, eq_str_bl, eq_str_int, eq_str_tup, eq_str_lst, eq_tup_non, eq_tup_bl, eq_tup_int, eq_tup_str, eq_tup_tup, eq_tup_lst, eq_lst_non, eq_lst_bl, eq_lst_int, eq_lst_str, eq_lst_tup, eq_lst_lst, tr_non, tr_bl, tr_int, tr_str, tr_tup, tr_lst, ty_int_non, ty_int_bl, ty_int_int, ty_int_str, ty_int_tup, ty_int_lst, ty_bool_non, ty_bool_bl, ty_bool_int, ty_bool_str, ty_bool_tup, ty_bool_lst, ty_str_non, ty_str_bl, ty_str_int, ty_str_str, ty_str_tup, ty_str_lst, ty_tuple_non, ty_tuple_bl, ty_tuple_int, ty_tuple_str, ty_tuple_tup, ty_tuple_lst, ty_list_non, ty_list_bl, ty_list_int, ty_list_str, ty_list_tup, ty_list_lst, o1_neg, o1_not, o1_len_str, o1_len_tup, o1_len_lst, o1_len_scr, o1_tuple_lst, o1_tuple_tup, o1_list_lst, o1_list_tup, o1_all, o1_any, o1_sum, o1_int_int, o1_int_bl, o1_int_str, o1_str_int, o1_str_str, o1_repr_int, o1_repr_bl, o1_abs, o1_isi, o1_isB, o1_notB, o1_bits, o1_rev, o1_isN_non, o1_notN_non, o1_isN_bl, o1_notN_bl, o1_isN_int, o1_notN_int, o1_isN_str, o1_notN_str, o1_isN_tup, o1_notN_tup, o1_isN_lst, o1_notN_lst, o1_isN_ref, o1_notN_ref, o1_isN_scr, o1_notN_scr, sl_tup, sl_lst, sl_str, ao_int, ao_str, it_tup, it_lst, it_str, bg_nm, bg_tup, bg_lst, bg_nil, bg_cons, rc_add, rc_sub, rc_mul, rc_fdiv, rc_mod, rc_pow, rc_band, rc_bor, rc_bxor, rc_shl, rc_shr, rc_eq, rc_ne, rc_lt, rc_le, rc_gt, rc_ge, rc_in, rc_nin, rc_idx, rc_min, rc_max, rc_count, rc_join, wi_nil, wi_cons, sm_nil, sb_non, sb_bl, sb_int, sb_str, sb_tup, sb_lst, sb_ref, sb_own, no_nil, sm_cons, no_cons]
    refine h.number ?_
    simp [wp_nil, wp_ok, wp_bad, wp_exc, wp_bind, wp_sb, wp_opt_some, wp_opt_none, wp_opt_ite, wp_opt_bind, wp_opt_map, wp_ite, wp_calm, ex, evE, evEs, evB, evAnd, evOr, evT, evAll, evAny, evI, enter, fin1_rt, fin1_nx, fin1_xc, nx1_nx, nx1_rt, nx1_bk, nx1_ct, nx1_xc, mulOk, rngOk, D.isOwn, rs_non, rs_bl, rs_int, rs_str, rs_tup, rs_lst, rs_scr, rs_ow, o2_add_int, o2_sub_int, o2_mul_int, o2_fdiv_int, o2_mod_int, o2_pow_int, o2_band_int, o2_bor_int, o2_bxor_int, o2_shl_int, o2_shr_int, o2_lt_int, o2_le_int, o2_gt_int, o2_ge_int, o2_min_int, o2_max_int, o2_add_str, o2_add_tup, o2_add_lst, o2_mul_lst, o2_eq, o2_ne, o2_in, o2_nin, o2_idx_tup, o2_idx_lst, o2_idx_scr, o2_idx_str, o2_count, o2_join, eq_int, eq_str, eq_bl, eq_non_non, eq_non_bl, eq_non_int, eq_non_str, eq_non_tup, eq_non_lst, eq_bl_non, eq_bl_int, eq_bl_str, eq_bl_tup, eq_bl_lst, eq_int_non, eq_int_bl, eq_int_str, eq_int_tup, eq_int_lst, eq_str_non, eq_str_bl, eq_str_int, eq_str_tup, eq_str_lst, eq_tup_non, eq_tup_bl, eq_tup_int, eq_tup_str, eq_tup_tup, eq_tup_lst, eq_lst_non, eq_lst_bl, eq_lst_int, eq_lst_str, eq_lst_tup, eq_lst_lst, tr_non, tr_bl, tr_int, tr_str, tr_tup, tr_lst, ty_int_non, ty_int_bl, ty_int_int, ty_int_str, ty_int_tup, ty_int_lst, ty_bool_non, ty_bool_bl, ty_bool_int, ty_bool_str, ty_bool_tup, ty_bool_lst, ty_str_non, ty_str_bl, ty_str_int, ty_str_str, ty_str_tup, ty_str_lst, ty_tuple_non, ty_tuple_bl, ty_tuple_int, ty_tuple_str, ty_tuple_tup, ty_tuple_lst, ty_list_non, ty_list_bl, ty_list_int, ty_list_str, ty_list_tup, ty_list_lst, o1_neg, o1_not, o1_len_str, o1_len_tup, o1_len_lst, o1_len_scr, o1_tuple_lst, o1_tuple_tup, o1_list_lst, o1_list_tup, o1_all, o1_any, o1_sum, o1_int_int, o1_int_bl, o1_int_str, o1_str_int, o1_str_str, o1_repr_int, o1_repr_bl, o1_abs, o1_isi, o1_isB, o1_notB, o1_bits, o1_rev, o1_isN_non, o1_notN_non, o1_isN_bl, o1_notN_bl, o1_isN_int, o1_notN_int, o1_isN_str, o1_notN_str, o1_isN_tup, o1_notN_tup, o1_isN_lst, o1_notN_lst, o1_isN_ref, o1_notN_ref, o1_isN_scr, o1_notN_scr, sl_tup, sl_lst, sl_str, ao_int, ao_str, it_tup, it_lst, it_str, bg_nm, bg_tup, bg_lst, bg_nil, bg_cons, rc_add, rc_sub, rc_mul, rc_fdiv, rc_mod, rc_pow, rc_band, rc_bor, rc_bxor, rc_shl, rc_shr, rc_eq, rc_ne, rc_lt, rc_le, rc_gt, rc_ge, rc_in, rc_nin, rc_idx, rc_min, rc_max, rc_count, rc_join, wi_nil, wi_cons, sm_nil, sb_non, sb_bl, sb_int, sb_str, sb_tup, sb_lst, sb_ref, sb_own, no_nil, sm_cons, no_cons]
    obtain ⟨K, hK⟩ : ∃ K : Int, K = l.length := ⟨_, rfl⟩
    rw [← hK]
    refine h.bytes (by omega) (by omega) ?_
    have e : K.toNat = l.length := by omega
    rw [e, hdig]
    simp [wp_nil, wp_ok, wp_bad, wp_exc, wp_bind, wp_sb, wp_opt_some, wp_opt_none, wp_opt_ite, wp_opt_bind, wp_opt_map, wp_ite, wp_calm, ex, evE, evEs, evB, evAnd, evOr, evT, evAll, evAny, evI, enter, fin1_rt, fin1_nx, fin1_xc, nx1_nx, nx1_rt, nx1_bk, nx1_ct, nx1_xc, mulOk, rngOk, D.isOwn, rs_non, rs_bl, rs_int, rs_str, rs_tup, rs_lst, rs_scr, rs_ow, o2_add_int, o2_sub_int, o2_mul_int, o2_fdiv_int, o2_mod_int, o2_pow_int, o2_band_int, o2_bor_int, o2_bxor_int, o2_shl_int, o2_shr_int, o2_lt_int, o2_le_int, o2_gt_int, o2_ge_int, o2_min_int, o2_max_int, o2_add_str, o2_add_tup, o2_add_lst, o2_mul_lst, o2_eq, o2_ne, o2_in, o2_nin, o2_idx_tup, o2_idx_lst, o2_idx_scr, o2_idx_str, o2_count, o2_join, eq_int, eq_str, eq_bl, eq_non_non, eq_non_bl, eq_non_int, eq_non_str, eq_non_tup, eq_non_lst, eq_bl_non, eq_bl_int, eq_bl_str, eq_bl_tup, eq_bl_lst, eq_int_non, eq_int_bl, eq_int_str, eq_int_tup, eq_int_lst, eq_str_non, eq_str_bl, eq_str_int, eq_str_tup, eq_str_lst, eq_tup_non, eq_tup_bl, eq_tup_int, eq_tup_str, eq_tup_tup, eq_tup_lst, eq_lst_non, eq_lst_bl, eq_lst_int, eq_lst_str, eq_lst_tup, eq_lst_lst, tr_non, tr_bl, tr_int, tr_str, tr_tup, tr_lst, ty_int_non, ty_int_bl, ty_int_int, ty_int_str, ty_int_tup, ty_int_lst, ty_bool_non, ty_bool_bl, ty_bool_int, ty_bool_str, ty_bool_tup, ty_bool_lst, ty_str_non, ty_str_bl, ty_str_int, ty_str_str, ty_str_tup, ty_str_lst, ty_tuple_non, ty_tuple_bl, ty_tuple_int, ty_tuple_str, ty_tuple_tup, ty_tuple_lst, ty_list_non, ty_list_bl, ty_list_int, ty_list_str, ty_list_tup, ty_list_lst, o1_neg, o1_not, o1_len_str, o1_len_tup, o1_len_lst, o1_len_scr, o1_tuple_lst, o1_tuple_tup, o1_list_lst, o1_list_tup, o1_all, o1_any, o1_sum, o1_int_int, o1_int_bl, o1_int_str, o1_str_int, o1_str_str, o1_repr_int, o1_repr_bl, o1_abs, o1_isi, o1_isB, o1_notB, o1_bits, o1_rev, o1_isN_non, o1_notN_non, o1_isN_bl, o1_notN_bl, o1_isN_int, o1_notN_int, o1_isN_str, o1_notN_str, o1_isN_tup, o1_notN_tup, o1_isN_lst, o1_notN_lst, o1_isN_ref, o1_notN_ref, o1_isN_scr, o1_notN_scr, sl_tup, sl_lst, sl_str, ao_int, ao_str, it_tup, it_lst, it_str, bg_nm, bg_tup, bg_lst, bg_nil, bg_cons, rc_add, rc_sub, rc_mul, rc_fdiv, rc_mod, rc_pow, rc_band, rc_bor, rc_bxor, rc_shl, rc_shr, rc_eq, rc_ne, rc_lt, rc_le, rc_gt, rc_ge, rc_in, rc_nin, rc_idx, rc_min, rc_max, rc_count, rc_join, wi_nil, wi_cons, sm_nil, sb_non, sb_bl, sb_int, sb_str, sb_tup, sb_lst, sb_ref, sb_own, no_nil, sm_cons, no_cons, hsh, hev]
  rw [nx1_nx, wp_seq]
  refine wp_test ?_ ?_
  · simp [wp_nil, wp_ok, wp_bad, wp_exc, wp_bind, wp_sb, wp_opt_some, wp_opt_none, wp_opt_ite, wp_opt_bind, wp_opt_map, wp_ite, wp_calm, ex, evE, evEs, evB, evAnd, evOr, evT, evAll, evAny, evI, enter, fin1_rt, fin1_nx, fin1_xc, nx1_nx, nx1_rt, nx1_bk, nx1_ct, nx1_xc, mulOk, rngOk, D.isOwn, rs_non, rs_bl, rs_int, rs_str, rs_tup, rs_lst, rs_scr, rs_ow, o2_add_int, o2_sub_int, o2_mul_int, o2_fdiv_int, o2_mod_int, o2_pow_int, o2_band_int, o2_bor_int, o2_bxor_int, o2_shl_int, o2_shr_int, o2_lt_int, o2_le_int, o2_gt_int, o2_ge_int, o2_min_int, o2_max_int, o2_add_str, o2_add_tup, o2_add_lst, o2_mul_lst, o2_eq, o2_ne, o2_in, o2_nin, o2_idx_tup, o2_idx_lst, o2_idx_scr, o2_idx_str, o2_count, o2_join, eq_int, eq_str, eq_bl, eq_non_non, eq_non_bl, eq_non_int, eq_non_str, eq_non_tup, eq_non_lst, eq_bl_non, eq_bl_int, eq_bl_str, eq_bl_tup, eq_bl_lst, eq_int_non, eq_int_bl, eq_int_str, eq_int_tup, eq_int_lst, eq_str_non, eq_str_bl, eq_str_int, eq_str_tup, eq_str_lst, eq_tup_non, eq_tup_bl, eq_tup_int, eq_tup_str, eq_tup_tup, eq_tup_lst, eq_lst_non, eq_lst_bl, eq_lst_int, eq_lst_str, eq_lst_tup, eq_lst_lst, tr_non, tr_bl, tr_int, tr_str, tr_tup, tr_lst, ty_int_non, ty_int_bl, ty_int_int, ty_int_str, ty_int_tup, ty_int_lst, ty_bool_non, ty_bool_bl, ty_bool_int, ty_bool_str, ty_bool_tup, ty_bool_lst, ty_str_non, ty_str_bl, ty_str_int, ty_str_str, ty_str_tup, ty_str_lst, ty_tuple_non, ty_tuple_bl, ty_tuple_int, ty_tuple_str, ty_tuple_tup, ty_tuple_lst, ty_list_non, ty_list_bl, ty_list_int, ty_list_str, ty_list_tup, ty_list_lst, o1_neg, o1_not, o1_len_str, o1_len_tup, o1_len_lst, o1_len_scr, o1_tuple_lst, o1_tuple_tup, o1_list_lst, o1_list_tup, o1_all, o1_any, o1_sum, o1_int_int, o1_int_bl, o1_int_str, o1_str_int, o1_str_str, o1_repr_int, o1_repr_bl, o1_abs, o1_isi, o1_isB, o1_notB, o1_bits, o1_rev, o1_isN_non, o1_notN_non, o1_isN_bl, o1_notN_bl, o1_isN_int, o1_notN_int, o1_isN_str, o1_notN_str, o1_isN_tup, o1_notN_tup, o1_isN_lst, o1_notN_lst, o1_isN_ref, o1_notN_ref, o1_isN_scr, o1_notN_scr, sl_tup, sl_lst, sl_str, ao_int, ao_str, it_tup, it_lst, it_str, bg_nm, bg_tup, bg_lst, bg_nil, bg_cons, rc_add, rc_sub, rc_mul, rc_fdiv, rc_mod, rc_pow, rc_band, rc_bor, rc_bxor, rc_shl, rc_shr, rc_eq, rc_ne, rc_lt, rc_le, rc_gt, rc_ge, rc_in, rc_nin, rc_idx, rc_min, rc_max, rc_count, rc_join, wi_nil, wi_cons, sm_nil, sb_non, sb_bl, sb_int, sb_str, sb_tup, sb_lst, sb_ref, sb_own, no_nil, sm_cons, no_cons]
    obtain ⟨K, hK⟩ : ∃ K : Int, K = l.length + 2 := ⟨_, rfl⟩
    rw [← hK]
    refine h.bytes (by omega) (by omega) ?_
    have e : K.toNat = (0 :: 0 :: l).length := by simp; omega
    rw [e, hdig2]
    have hsh3 : (D.tup (.int 0 :: .int 0 :: l.map .int)).sh = true := hsh2
    have hev3 : (D.tup (.int 0 :: .int 0 :: l.map .int)).eqv (D.tup (.int 0 :: .int 0 :: l.map .int)) = true := hev2
    have hs2 : 2 + l.length ≤ 16777216 := by omega
    simp [wp_nil, wp_ok, wp_bad, wp_exc, wp_bind, wp_sb, wp_opt_some, wp_opt_none, wp_opt_ite, wp_opt_bind, wp_opt_map, wp_ite, wp_calm, ex, evE, evEs, evB, evAnd, evOr, evT, evAll, evAny, evI, enter, fin1_rt, fin1_nx, fin1_xc, nx1_nx, nx1_rt, nx1_bk, nx1_ct, nx1_xc, mulOk, rngOk, D.isOwn, rs_non, rs_bl, rs_int, rs_str, rs_tup, rs_lst, rs_scr, rs_ow, o2_add_int, o2_sub_int, o2_mul_int, o2_fdiv_int, o2_mod_int, o2_pow_int, o2_band_int, o2_bor_int, o2_bxor_int, o2_shl_int, o2_shr_int, o2_lt_int, o2_le_int, o2_gt_int, o2_ge_int, o2_min_int, o2_max_int, o2_add_str, o2_add_tup, o2_add_lst, o2_mul_lst, o2_eq, o2_ne, o2_in, o2_nin, o2_idx_tup, o2_idx_lst, o2_idx_scr, o2_idx_str, o2_count, o2_join, eq_int, eq_str, eq_bl, eq_non_non, eq_non_bl, eq_non_int, eq_non_str, eq_non_tup, eq_non_lst, eq_bl_non, eq_bl_int, eq_bl_str, eq_bl_tup, eq_bl_lst, eq_int_non, eq_int_bl, eq_int_str, eq_int_tup, eq_int_lst, eq_str_non, eq_str_bl, eq_str_int, eq_str_tup, eq_str_lst, eq_tup_non, eq_tup_bl, eq_tup_int, eq_tup_str, eq_tup_tup, eq_tup_lst, eq_lst_non, eq_lst_bl, eq_lst_int, eq_lst_str, eq_lst_tup, eq_lst_lst, tr_non, tr_bl, tr_int, tr_str, tr_tup, tr_lst, ty_int_non, ty_int_bl, ty_int_int, ty_int_str, ty_int_tup, ty_int_lst, ty_bool_non, ty_bool_bl, ty_bool_int, ty_bool_str, ty_bool_tup, ty_bool_lst, ty_str_non, ty_str_bl, ty_str_int, ty_str_str, ty_str_tup, ty_str_lst, ty_tuple_non, ty_tuple_bl, ty_tuple_int, ty_tuple_str, ty_tuple_tup, ty_tuple_lst, ty_list_non, ty_list_bl, ty_list_int, ty_list_str, ty_list_tup, ty_list_lst, o1_neg, o1_not, o1_len_str, o1_len_tup, o1_len_lst, o1_len_scr, o1_tuple_lst, o1_tuple_tup, o1_list_lst, o1_list_tup, o1_all, o1_any, o1_sum, o1_int_int, o1_int_bl, o1_int_str, o1_str_int, o1_str_str, o1_repr_int, o1_repr_bl, o1_abs, o1_isi, o1_isB, o1_notB, o1_bits, o1_rev, o1_isN_non, o1_notN_non, o1_isN_bl, o1_notN_bl, o1_isN_int, o1_notN_int, o1_isN_str, o1_notN_str, o1_isN_tup, o1_notN_tup, o1_isN_lst, o1_notN_lst, o1_isN_ref, o1_notN_ref, o1_isN_scr, o1_notN_scr, sl_tup, sl_lst, sl_str, ao_int, ao_str, it_tup, it_lst, it_str, bg_nm, bg_tup, bg_lst, bg_nil, bg_cons, rc_add, rc_sub, rc_mul, rc_fdiv, rc_mod, rc_pow, rc_band, rc_bor, rc_bxor, rc_shl, rc_shr, rc_eq, rc_ne, rc_lt, rc_le, rc_gt, rc_ge, rc_in, rc_nin, rc_idx, rc_min, rc_max, rc_count, rc_join, wi_nil, wi_cons, sm_nil, sb_non, sb_bl, sb_int, sb_str, sb_tup, sb_lst, sb_ref, sb_own, no_nil, sm_cons, no_cons, sizeLine_eq, hsh3, hev3, hs2]
    refine h.isby (plain_ints l) (by simp; omega) ?_
    rw [isIb_ints hb1]
    simp [wp_nil, wp_ok, wp_bad, wp_exc, wp_bind, wp_sb, wp_opt_some, wp_opt_none, wp_opt_ite, wp_opt_bind, wp_opt_map, wp_ite, wp_calm, ex, evE, evEs, evB, evAnd, evOr, evT, evAll, evAny, evI, enter, fin1_rt, fin1_nx, fin1_xc, nx1_nx, nx1_rt, nx1_bk, nx1_ct, nx1_xc, mulOk, rngOk, D.isOwn, rs_non, rs_bl, rs_int, rs_str, rs_tup, rs_lst, rs_scr, rs_ow, o2_add_int, o2_sub_int, o2_mul_int, o2_fdiv_int, o2_mod_int, o2_pow_int, o2_band_int, o2_bor_int, o2_bxor_int, o2_shl_int, o2_shr_int, o2_lt_int, o2_le_int, o2_gt_int, o2_ge_int, o2_min_int, o2_max_int, o2_add_str, o2_add_tup, o2_add_lst, o2_mul_lst, o2_eq, o2_ne, o2_in, o2_nin, o2_idx_tup, o2_idx_lst, o2_idx_scr, o2_idx_str, o2_count, o2_join, eq_int, eq_str, eq_bl, eq_non_non, eq_non_bl, eq_non_int, eq_non_str, eq_non_tup, eq_non_lst, eq_bl_non, eq_bl_int, eq_bl_str, eq_bl_tup, eq_bl_lst, eq_int_non, eq_int_bl, eq_int_str, eq_int_tup, eq_int_lst, eq_str_non, eq_str_bl, eq_str_int, eq_str_tup, eq_str_lst, eq_tup_non, eq_tup_bl, eq_tup_int, eq_tup_str, eq_tup_tup, eq_tup_lst, eq_lst_non, eq_lst_bl, eq_lst_int, eq_lst_str, eq_lst_tup, eq_lst_lst, tr_non, tr_bl, tr_int, tr_str, tr_tup, tr_lst, ty_int_non, ty_int_bl, ty_int_int, ty_int_str, ty_int_tup, ty_int_lst, ty_bool_non, ty_bool_bl, ty_bool_int, ty_bool_str, ty_bool_tup, ty_bool_lst, ty_str_non, ty_str_bl, ty_str_int, ty_str_str, ty_str_tup, ty_str_lst, ty_tuple_non, ty_tuple_bl, ty_tuple_int, ty_tuple_str, ty_tuple_tup, ty_tuple_lst, ty_list_non, ty_list_bl, ty_list_int, ty_list_str, ty_list_tup, ty_list_lst, o1_neg, o1_not, o1_len_str, o1_len_tup, o1_len_lst, o1_len_scr, o1_tuple_lst, o1_tuple_tup, o1_list_lst, o1_list_tup, o1_all, o1_any, o1_sum, o1_int_int, o1_int_bl, o1_int_str, o1_str_int, o1_str_str, o1_repr_int, o1_repr_bl, o1_abs, o1_isi, o1_isB, o1_notB, o1_bits, o1_rev, o1_isN_non, o1_notN_non, o1_isN_bl, o1_notN_bl, o1_isN_int, o1_notN_int, o1_isN_str, o1_notN_str, o1_isN_tup, o1_notN_tup, o1_isN_lst, o1_notN_lst, o1_isN_ref, o1_notN_ref, o1_isN_scr, o1_notN_scr, sl_tup, sl_lst, sl_str, ao_int, ao_str, it_tup, it_lst, it_str, bg_nm, bg_tup, bg_lst, bg_nil, bg_cons, rc_add, rc_sub, rc_mul, rc_fdiv, rc_mod, rc_pow, rc_band, rc_bor, rc_bxor, rc_shl, rc_shr, rc_eq, rc_ne, rc_lt, rc_le, rc_gt, rc_ge, rc_in, rc_nin, rc_idx, rc_min, rc_max, rc_count, rc_join, wi_nil, wi_cons, sm_nil, sb_non, sb_bl, sb_int, sb_str, sb_tup, sb_lst, sb_ref, sb_own, no_nil, sm_cons, no_cons]
    refine h.isbl ?_
    simp [wp_nil, wp_ok, wp_bad, wp_exc, wp_bind, wp_sb, wp_opt_some, wp_opt_none, wp_opt_ite, wp_opt_bind, wp_opt_map, wp_ite, wp_calm, ex, evE, evEs, evB, evAnd, evOr, evT, evAll, evAny, evI, enter, fin1_rt, fin1_nx, fin1_xc, nx1_nx, nx1_rt, nx1_bk, nx1_ct, nx1_xc, mulOk, rngOk, D.isOwn, rs_non, rs_bl, rs_int, rs_str, rs_tup, rs_lst, rs_scr, rs_ow, o2_add_int, o2_sub_int, o2_mul_int, o2_fdiv_int, o2_mod_int, o2_pow_int, o2_band_int, o2_bor_int, o2_bxor_int, o2_shl_int, o2_shr_int, o2_lt_int, o2_le_int, o2_gt_int, o2_ge_int, o2_min_int, o2_max_int, o2_add_str, o2_add_tup, o2_add_lst, o2_mul_lst, o2_eq, o2_ne, o2_in, o2_nin, o2_idx_tup, o2_idx_lst, o2_idx_scr, o2_idx_str, o2_count, o2_join, eq_int, eq_str, eq_bl, eq_non_non, eq_non_bl, eq_non_int, eq_non_str, eq_non_tup, eq_non_lst, eq_bl_non, eq_bl_int, eq_bl_str, eq_bl_tup, eq_bl_lst, eq_int_non, eq_int_bl, eq_int_str, eq_int_tup, eq_int_lst, eq_str_non, eq_str_bl, eq_str_int, eq_str_tup, eq_str_lst, eq_tup_non, eq_tup_bl, eq_tup_int, eq_tup_str, eq_tup_tup, eq_tup_lst, eq_lst_non, eq_lst_bl, eq_lst_int, eq_lst_str, eq_lst_tup, eq_lst_lst, tr_non, tr_bl, tr_int, tr_str, tr_tup, tr_lst, ty_int_non, ty_int_bl, ty_int_int, ty_int_str, ty_int_tup, ty_int_lst, ty_bool_non, ty_bool_bl, ty_bool_int, ty_bool_str, ty_bool_tup, ty_bool_lst, ty_str_non, ty_str_bl, ty_str_int, ty_str_str, ty_str_tup, ty_str_lst, ty_tuple_non, ty_tuple_bl, ty_tuple_int, ty_tuple_str, ty_tuple_tup, ty_tuple_lst, ty_list_non, ty_list_bl, ty_list_int, ty_list_str, ty_list_tup, ty_list_lst, o1_neg, o1_not, o1_len_str, o1_len_tup, o1_len_lst, o1_len_scr, o1_tuple_lst, o1_tuple_tup, o1_list_lst, o1_list_tup, o1_all, o1_any, o1_sum, o1_int_int, o1_int_bl, o1_int_str, o1_str_int, o1_str_str, o1_repr_int, o1_repr_bl, o1_abs, o1_isi, o1_isB, o1_notB, o1_bits, o1_rev, o1_isN_non, o1_notN_non, o1_isN_bl, o1_notN_bl, o1_isN_int, o1_notN_int, o1_isN_str, o1_notN_str, o1_isN_tup, o1_notN_tup, o1_isN_lst, o1_notN_lst, o1_isN_ref, o1_notN_ref, o1_isN_scr, o1_notN_scr, sl_tup, sl_lst, sl_str, ao_int, ao_str, it_tup, it_lst, it_str, bg_nm, bg_tup, bg_lst, bg_nil, bg_cons, rc_add, rc_sub, rc_mul, rc_fdiv, rc_mod, rc_pow, rc_band, rc_bor, rc_bxor, rc_shl, rc_shr, rc_eq, rc_ne, rc_lt, rc_le, rc_gt, rc_ge, rc_in, rc_nin, rc_idx, rc_min, rc_max, rc_count, rc_join, wi_nil, wi_cons, sm_nil, sb_non, sb_bl, sb_int, sb_str, sb_tup, sb_lst, sb_ref, sb_own, no_nil, sm_cons, no_cons]
  rw [nx1_nx, wp_seq]
  simp [wp_nil, wp_ok, wp_bad, wp_exc, wp_bind, wp_sb, wp_opt_some, wp_opt_none, wp_opt_ite, wp_opt_bind, wp_opt_map, wp_ite, wp_calm, ex, evE, evEs, evB, evAnd, evOr, evT, evAll, evAny, evI, enter, fin1_rt, fin1_nx, fin1_xc, nx1_nx, nx1_rt, nx1_bk, nx1_ct, nx1_xc, mulOk, rngOk, D.isOwn, rs_non, rs_bl, rs_int, rs_str, rs_tup, rs_lst, rs_scr, rs_ow, o2_add_int, o2_sub_int, o2_mul_int, o2_fdiv_int, o2_mod_int, o2_pow_int, o2_band_int, o2_bor_int, o2_bxor_int, o2_shl_int, o2_shr_int, o2_lt_int, o2_le_int, o2_gt_int, o2_ge_int, o2_min_int, o2_max_int, o2_add_str, o2_add_tup, o2_add_lst, o2_mul_lst, o2_eq, o2_ne, o2_in, o2_nin, o2_idx_tup, o2_idx_lst, o2_idx_scr, o2_idx_str, o2_count, o2_join, eq_int, eq_str, eq_bl, eq_non_non, eq_non_bl, eq_non_int, eq_non_str, eq_non_tup, eq_non_lst, eq_bl_non, eq_bl_int, eq_bl_str, eq_bl_tup, eq_bl_lst, eq_int_non, eq_int_bl, eq_int_str, eq_int_tup, eq_int_lst, eq_str_non, eq_str_bl, eq_str_int, eq_str_tup, eq_str_lst, eq_tup_non, eq_tup_bl, eq_tup_int, eq_tup_str, eq_tup_tup, eq_tup_lst, eq_lst_non, eq_lst_bl, eq_lst_int, eq_lst_str, eq_lst_tup, eq_lst_lst, tr_non, tr_bl, tr_int, tr_str, tr_tup, tr_lst, ty_int_non, ty_int_bl, ty_int_int, ty_int_str, ty_int_tup, ty_int_lst, ty_bool_non, ty_bool_bl, ty_bool_int, ty_bool_str, ty_bool_tup, ty_bool_lst, ty_str_non, ty_str_bl, ty_str_int, ty_str_str, ty_str_tup, ty_str_lst, ty_tuple_non, ty_tuple_bl, ty_tuple_int, ty_tuple_str, ty_tuple_tup, ty_tuple_lst, ty_list_non, ty_list_bl, ty_list_int, ty_list_str, ty_list_tup, ty_list_lst, o1_neg, o1_not, o1_len_str, o1_len_tup, o1_len_lst, o1_len_scr, o1_tuple_lst, o1_tuple_tup, o1_list_lst, o1_list_tup, o1_all, o1_any, o1_sum, o1_int_int, o1_int_bl, o1_int_str, o1_str_int, o1_str_str, o1_repr_int, o1_repr_bl, o1_abs, o1_isi, o1_isB, o1_notB, o1_bits, o1_rev, o1_isN_non, o1_notN_non, o1_isN_bl, o1_notN_bl, o1_isN_int, o1_notN_int, o1_isN_str, o1_notN_str, o1_isN_tup, o1_notN_tup, o1_isN_lst, o1_notN_lst, o1_isN_ref, o1_notN_ref, o1_isN_scr, o1_notN_scr, sl_tup, sl_lst, sl_str, ao_int, ao_str, it_tup, it_lst, it_str, bg_nm, bg_tup, bg_lst, bg_nil, bg_cons, rc_add, rc_sub, rc_mul, rc_fdiv, rc_mod, rc_pow, rc_band, rc_bor, rc_bxor, rc_shl, rc_shr, rc_eq, rc_ne, rc_lt, rc_le, rc_gt, rc_ge, rc_in, rc_nin, rc_idx, rc_min, rc_max, rc_count, rc_join, wi_nil, wi_cons, sm_nil, sb_non, sb_bl, sb_int, sb_str, sb_tup, sb_lst, sb_ref, sb_own, no_nil, sm_cons, no_cons, sizeLine_eq]
  refine h.one hb (by simp) (by simp) fun d M hd hb => ?_
  have hA := cut_len (l.map D.int) none (some 3)
  have hB := cut_len (l.map D.int) (some 3) none
  have hL : (l.map D.int).length = l.length := by simp
  have g1 : (cut (l.map D.int) none (some 3)).length + 1 ≤ 16777216 := by omega
  have g2 : (cut (l.map D.int) none (some 3)).length + 1 + (cut (l.map D.int) (some 3) none).length ≤ 16777216 := by omega
  simp [wp_nil, wp_ok, wp_bad, wp_exc, wp_bind, wp_sb, wp_opt_some, wp_opt_none, wp_opt_ite, wp_opt_bind, wp_opt_map, wp_ite, wp_calm, ex, evE, evEs, evB, evAnd, evOr, evT, evAll, evAny, evI, enter, fin1_rt, fin1_nx, fin1_xc, nx1_nx, nx1_rt, nx1_bk, nx1_ct, nx1_xc, mulOk, rngOk, D.isOwn, rs_non, rs_bl, rs_int, rs_str, rs_tup, rs_lst, rs_scr, rs_ow, o2_add_int, o2_sub_int, o2_mul_int, o2_fdiv_int, o2_mod_int, o2_pow_int, o2_band_int, o2_bor_int, o2_bxor_int, o2_shl_int, o2_shr_int, o2_lt_int, o2_le_int, o2_gt_int, o2_ge_int, o2_min_int, o2_max_int, o2_add_str, o2_add_tup, o2_add_lst, o2_mul_lst, o2_eq, o2_ne, o2_in, o2_nin, o2_idx_tup, o2_idx_lst, o2_idx_scr, o2_idx_str, o2_count, o2_join, eq_int, eq_str, eq_bl, eq_non_non, eq_non_bl, eq_non_int, eq_non_str, eq_non_tup, eq_non_lst, eq_bl_non, eq_bl_int, eq_bl_str, eq_bl_tup, eq_bl_lst, eq_int_non, eq_int_bl, eq_int_str, eq_int_tup, eq_int_lst, eq_str_non, eq_str_bl, eq_str_int, eq_str_tup, eq_str_lst, eq_tup_non, eq_tup_bl, eq_tup_int, eq_tup_str, eq_tup_tup, eq_tup_lst, eq_lst_non, eq_lst_bl, eq_lst_int, eq_lst_str, eq_lst_tup, eq_lst_lst, tr_non, tr_bl, tr_int, tr_str, tr_tup, tr_lst, ty_int_non, ty_int_bl, ty_int_int, ty_int_str, ty_int_tup, ty_int_lst, ty_bool_non, ty_bool_bl, ty_bool_int, ty_bool_str, ty_bool_tup, ty_bool_lst, ty_str_non, ty_str_bl, ty_str_int, ty_str_str, ty_str_tup, ty_str_lst, ty_tuple_non, ty_tuple_bl, ty_tuple_int, ty_tuple_str, ty_tuple_tup, ty_tuple_lst, ty_list_non, ty_list_bl, ty_list_int, ty_list_str, ty_list_tup, ty_list_lst, o1_neg, o1_not, o1_len_str, o1_len_tup, o1_len_lst, o1_len_scr, o1_tuple_lst, o1_tuple_tup, o1_list_lst, o1_list_tup, o1_all, o1_any, o1_sum, o1_int_int, o1_int_bl, o1_int_str, o1_str_int, o1_str_str, o1_repr_int, o1_repr_bl, o1_abs, o1_isi, o1_isB, o1_notB, o1_bits, o1_rev, o1_isN_non, o1_notN_non, o1_isN_bl, o1_notN_bl, o1_isN_int, o1_notN_int, o1_isN_str, o1_notN_str, o1_isN_tup, o1_notN_tup, o1_isN_lst, o1_notN_lst, o1_isN_ref, o1_notN_ref, o1_isN_scr, o1_notN_scr, sl_tup, sl_lst, sl_str, ao_int, ao_str, it_tup, it_lst, it_str, bg_nm, bg_tup, bg_lst, bg_nil, bg_cons, rc_add, rc_sub, rc_mul, rc_fdiv, rc_mod, rc_pow, rc_band, rc_bor, rc_bxor, rc_shl, rc_shr, rc_eq, rc_ne, rc_lt, rc_le, rc_gt, rc_ge, rc_in, rc_nin, rc_idx, rc_min, rc_max, rc_count, rc_join, wi_nil, wi_cons, sm_nil, sb_non, sb_bl, sb_int, sb_str, sb_tup, sb_lst, sb_ref, sb_own, no_nil, sm_cons, no_cons, sizeLine_eq, g1, g2]
  have hd2 : plain d = true ∧ isInt d 0 255 = false := by
    simp only [List.mem_cons, List.not_mem_nil, or_false] at hd
    rcases hd with e | e | e | e | e | e <;> subst e <;> exact ⟨rfl, rfl⟩
  have hp := List.all_eq_true.mp (plain_ints l)
  rw [wp_seq]
  refine ⟨by omega, wp_test ?_ ?_⟩
  rotate_left
  · rw [nx1_nx, wp_nil]
    exact q _ _
  simp [wp_nil, wp_ok, wp_bad, wp_exc, wp_bind, wp_sb, wp_opt_some, wp_opt_none, wp_opt_ite, wp_opt_bind, wp_opt_map, wp_ite, wp_calm, ex, evE, evEs, evB, evAnd, evOr, evT, evAll, evAny, evI, enter, fin1_rt, fin1_nx, fin1_xc, nx1_nx, nx1_rt, nx1_bk, nx1_ct, nx1_xc, mulOk, rngOk, D.isOwn, rs_non, rs_bl, rs_int, rs_str, rs_tup, rs_lst, rs_scr, rs_ow, o2_add_int, o2_sub_int, o2_mul_int, o2_fdiv_int, o2_mod_int, o2_pow_int, o2_band_int, o2_bor_int, o2_bxor_int, o2_shl_int, o2_shr_int, o2_lt_int, o2_le_int, o2_gt_int, o2_ge_int, o2_min_int, o2_max_int, o2_add_str, o2_add_tup, o2_add_lst, o2_mul_lst, o2_eq, o2_ne, o2_in, o2_nin, o2_idx_tup, o2_idx_lst, o2_idx_scr, o2_idx_str, o2_count, o2_join, eq_int, eq_str, eq_bl, eq_non_non, eq_non_bl, eq_non_int, eq_non_str, eq_non_tup, eq_non_lst, eq_bl_non, eq_bl_int, eq_bl_str, eq_bl_tup, eq_bl_lst, eq_int_non, eq_int_bl, eq_int_str, eq_int_tup, eq_int_lst, eq_str_non, eq_str_bl, eq_str_int, eq_str_tup, eq_str_lst, eq_tup_non, eq_tup_bl, eq_tup_int, eq_tup_str, eq_tup_tup, eq_tup_lst, eq_lst_non, eq_lst_bl, eq_lst_int, eq_lst_str, eq_lst_tup, eq_lst_lst, tr_non, tr_bl, tr_int, tr_str, tr_tup, tr_lst, ty_int_non, ty_int_bl, ty_int_int, ty_int_str, ty_int_tup, ty_int_lst, ty_bool_non, ty_bool_bl, ty_bool_int, ty_bool_str, ty_bool_tup, ty_bool_lst, ty_str_non, ty_str_bl, ty_str_int, ty_str_str, ty_str_tup, ty_str_lst, ty_tuple_non, ty_tuple_bl, ty_tuple_int, ty_tuple_str, ty_tuple_tup, ty_tuple_lst, ty_list_non, ty_list_bl, ty_list_int, ty_list_str, ty_list_tup, ty_list_lst, o1_neg, o1_not, o1_len_str, o1_len_tup, o1_len_lst, o1_len_scr, o1_tuple_lst, o1_tuple_tup, o1_list_lst, o1_list_tup, o1_all, o1_any, o1_sum, o1_int_int, o1_int_bl, o1_int_str, o1_str_int, o1_str_str, o1_repr_int, o1_repr_bl, o1_abs, o1_isi, o1_isB, o1_notB, o1_bits, o1_rev, o1_isN_non, o1_notN_non, o1_isN_bl, o1_notN_bl, o1_isN_int, o1_notN_int, o1_isN_str, o1_notN_str, o1_isN_tup, o1_notN_tup, o1_isN_lst, o1_notN_lst, o1_isN_ref, o1_notN_ref, o1_isN_scr, o1_notN_scr, sl_tup, sl_lst, sl_str, ao_int, ao_str, it_tup, it_lst, it_str, bg_nm, bg_tup, bg_lst, bg_nil, bg_cons, rc_add, rc_sub, rc_mul, rc_fdiv, rc_mod, rc_pow, rc_band, rc_bor, rc_bxor, rc_shl, rc_shr, rc_eq, rc_ne, rc_lt, rc_le, rc_gt, rc_ge, rc_in, rc_nin, rc_idx, rc_min, rc_max, rc_count, rc_join, wi_nil, wi_cons, sm_nil, sb_non, sb_bl, sb_int, sb_str, sb_tup, sb_lst, sb_ref, sb_own, no_nil, sm_cons, no_cons]
  refine h.isby ?_ (by simp; omega) ?_
  · rw [List.all_eq_true]
    intro x hx
    rcases List.mem_append.mp hx with g | g
    · exact hp x (mem_cut g)
    · rcases List.mem_cons.mp g with g | g
      · subst g; exact hd2.1
      · exact hp x (mem_cut g)
  · rw [isIb_bad hd2.2]
    simp [wp_nil, wp_ok, wp_bad, wp_exc, wp_bind, wp_sb, wp_opt_some, wp_opt_none, wp_opt_ite, wp_opt_bind, wp_opt_map, wp_ite, wp_calm, ex, evE, evEs, evB, evAnd, evOr, evT, evAll, evAny, evI, enter, fin1_rt, fin1_nx, fin1_xc, nx1_nx, nx1_rt, nx1_bk, nx1_ct, nx1_xc, mulOk, rngOk, D.isOwn, rs_non, rs_bl, rs_int, rs_str, rs_tup, rs_lst, rs_scr, rs_ow, o2_add_int, o2_sub_int, o2_mul_int, o2_fdiv_int, o2_mod_int, o2_pow_int, o2_band_int, o2_bor_int, o2_bxor_int, o2_shl_int, o2_shr_int, o2_lt_int, o2_le_int, o2_gt_int, o2_ge_int, o2_min_int, o2_max_int, o2_add_str, o2_add_tup, o2_add_lst, o2_mul_lst, o2_eq, o2_ne, o2_in, o2_nin, o2_idx_tup, o2_idx_lst, o2_idx_scr, o2_idx_str, o2_count, o2_join, eq_int, eq_str, eq_bl, eq_non_non, eq_non_bl, eq_non_int, eq_non_str, eq_non_tup, eq_non_lst, eq_bl_non, eq_bl_int, eq_bl_str, eq_bl_tup, eq_bl_lst, eq_int_non, eq_int_bl, eq_int_str, eq_int_tup, eq_int_lst, eq_str_non, eq_str_bl, eq_str_int, eq_str_tup, eq_str_lst, eq_tup_non, eq_tup_bl, eq_tup_int, eq_tup_str, eq_tup_tup, eq_tup_lst, eq_lst_non, eq_lst_bl, eq_lst_int, eq_lst_str, eq_lst_tup, eq_lst_lst, tr_non, tr_bl, tr_int, tr_str, tr_tup, tr_lst, ty_int_non, ty_int_bl, ty_int_int, ty_int_str, ty_int_tup, ty_int_lst, ty_bool_non, ty_bool_bl, ty_bool_int, ty_bool_str, ty_bool_tup, ty_bool_lst, ty_str_non, ty_str_bl, ty_str_int, ty_str_str, ty_str_tup, ty_str_lst, ty_tuple_non, ty_tuple_bl, ty_tuple_int, ty_tuple_str, ty_tuple_tup, ty_tuple_lst, ty_list_non, ty_list_bl, ty_list_int, ty_list_str, ty_list_tup, ty_list_lst, o1_neg, o1_not, o1_len_str, o1_len_tup, o1_len_lst, o1_len_scr, o1_tuple_lst, o1_tuple_tup, o1_list_lst, o1_list_tup, o1_all, o1_any, o1_sum, o1_int_int, o1_int_bl, o1_int_str, o1_str_int, o1_str_str, o1_repr_int, o1_repr_bl, o1_abs, o1_isi, o1_isB, o1_notB, o1_bits, o1_rev, o1_isN_non, o1_notN_non, o1_isN_bl, o1_notN_bl, o1_isN_int, o1_notN_int, o1_isN_str, o1_notN_str, o1_isN_tup, o1_notN_tup, o1_isN_lst, o1_notN_lst, o1_isN_ref, o1_notN_ref, o1_isN_scr, o1_notN_scr, sl_tup, sl_lst, sl_str, ao_int, ao_str, it_tup, it_lst, it_str, bg_nm, bg_tup, bg_lst, bg_nil, bg_cons, rc_add, rc_sub, rc_mul, rc_fdiv, rc_mod, rc_pow, rc_band, rc_bor, rc_bxor, rc_shl, rc_shr, rc_eq, rc_ne, rc_lt, rc_le, rc_gt, rc_ge, rc_in, rc_nin, rc_idx, rc_min, rc_max, rc_count, rc_join, wi_nil, wi_cons, sm_nil, sb_non, sb_bl, sb_int, sb_str, sb_tup, sb_lst, sb_ref, sb_own, no_nil, sm_cons, no_cons]
end MPL

set_option Elab.async false
set_option linter.all false
set_option maxRecDepth 100000
set_option maxHeartbeats 2000000
open MP PySem
namespace MPL
theorem bag_wp {n : Nat} {ns : List Int} {M : MH} {Q E} {K : Int} (hk : 0 ≤ K) (q : ∀ M' r, Bag M' r → Q (.ref r) M') : wp (callN fs E0 (n + 1) 7 [.scr ns, .int K] M) Q E := by
  rw [wp_call (F := f_law_bag) rfl rfl]
  simp only [f_law_bag, b_law_bag]
  rw [wp_seq]
  simp [wp_nil, wp_ok, wp_bad, wp_exc, wp_bind, wp_sb, wp_opt_some, wp_opt_none, wp_opt_ite, wp_opt_bind, wp_opt_map, wp_ite, wp_calm, ex, evE, evEs, evB, evAnd, evOr, evT, evAll, evAny, evI, enter, fin1_rt, fin1_nx, fin1_xc, nx1_nx, nx1_rt, nx1_bk, nx1_ct, nx1_xc, mulOk, rngOk, D.isOwn, rs_non, rs_bl, rs_int, rs_str, rs_tup, rs_lst, rs_scr, rs_ow, o2_add_int, o2_sub_int, o2_mul_int, o2_fdiv_int, o2_mod_int, o2_pow_int, o2_band_int, o2_bor_int, o2_bxor_int, o2_shl_int, o2_shr_int, o2_lt_int, o2_le_int, o2_gt_int, o2_ge_int, o2_min_int, o2_max_int, o2_add_str, o2_add_tup, o2_add_lst, o2_mul_lst, o2_eq, o2_ne, o2_in, o2_nin, o2_idx_tup, o2_idx_lst, o2_idx_scr, o2_idx_str, o2_count, o2_join, eq_int, eq_str, eq_bl, eq_non_non, eq_non_bl, eq_non_int, eq_non_str, eq_non_tup, eq_non_lst, eq_bl_non, eq_bl_int, eq_bl_str, eq_bl_tup, eq_bl_lst, eq_int_non, eq_int_bl, eq_int_str, eq_int_tup, eq_int_lst, eq_str_non, eq_str_bl, eq_str_int, eq_str_tup, eq_str_lst, eq_tup_non, eq_tup_bl, eq_tup_int, eq_tup_str, eq_tup_tup, eq_tup_lst, eq_lst_non, eq_lst_bl, eq_lst_int, eq_lst_str, eq_lst_tup, eq_lst_lst, tr_non, tr_bl, tr_int, tr_str, tr_tup, tr_lst, ty_int_non, ty_int_bl, ty_int_int, ty_int_str, ty_int_tup, ty_int_lst, ty_bool_non, ty_bool_bl, ty_bool_int, ty_bool_str, ty_bool_tup, ty_bool_lst, ty_str_non, ty_str_bl, ty_str_int, ty_str_str, ty_str_tup, ty_str_lst, ty_tuple_non, ty_tuple_bl, ty_tuple_int, ty_tuple_str, ty_tuple_tup, ty_tuple_lst, ty_list_non, ty_list_bl, ty_list_int, ty_list_str, ty_list_tup, ty_list_lst, o1_neg, o1_not, o1_len_str, o1_len_tup, o1_len_lst, o1_len_scr, o1_tuple_lst, o1_tuple_tup, o1_list_lst, o1_list_tup, o1_all, o1_any, o1_sum, o1_int_int, o1_int_bl, o1_int_str, o1_str_int, o1_str_str, o1_repr_int, o1_repr_bl, o1_abs, o1_isi, o1_isB, o1_notB, o1_bits, o1_rev, o1_isN_non, o1_notN_non, o1_isN_bl, o1_notN_bl, o1_isN_int, o1_notN_int, o1_isN_str, o1_notN_str, o1_isN_tup, o1_notN_tup, o1_isN_lst, o1_notN_lst, o1_isN_ref, o1_notN_ref, o1_isN_scr, o1_notN_scr, sl_tup, sl_lst, sl_str, ao_int, ao_str, it_tup, it_lst, it_str, bg_nm, bg_tup, bg_lst, bg_nil, bg_cons, rc_add, rc_sub, rc_mul, rc_fdiv, rc_mod, rc_pow, rc_band, rc_bor, rc_bxor, rc_shl, rc_shr, rc_eq, rc_ne, rc_lt, rc_le, rc_gt, rc_ge, rc_in, rc_nin, rc_idx, rc_min, rc_max, rc_count, rc_join, wi_nil, wi_cons, sm_nil, sb_non, sb_bl, sb_int, sb_str, sb_tup, sb_lst, sb_ref, sb_own, no_nil, sm_cons, no_cons]
  rw [wp_seq]
  simp [wp_nil, wp_ok, wp_bad, wp_exc, wp_bind, wp_sb, wp_opt_some, wp_opt_none, wp_opt_ite, wp_opt_bind, wp_opt_map, wp_ite, wp_calm, ex, evE, evEs, evB, evAnd, evOr, evT, evAll, evAny, evI, enter, fin1_rt, fin1_nx, fin1_xc, nx1_nx, nx1_rt, nx1_bk, nx1_ct, nx1_xc, mulOk, rngOk, D.isOwn, rs_non, rs_bl, rs_int, rs_str, rs_tup, rs_lst, rs_scr, rs_ow, o2_add_int, o2_sub_int, o2_mul_int, o2_fdiv_int, o2_mod_int, o2_pow_int, o2_band_int, o2_bor_int, o2_bxor_int, o2_shl_int, o2_shr_int, o2_lt_int, o2_le_int, o2_gt_int, o2_ge_int, o2_min_int, o2_max_int, o2_add_str, o2_add_tup, o2_add_lst, o2_mul_lst, o2_eq, o2_ne, o2_in, o2_nin, o2_idx_tup, o2_idx_lst, o2_idx_scr, o2_idx_str, o2_count, o2_join, eq_int, eq_str, eq_bl, eq_non_non, eq_non_bl, eq_non_int, eq_non_str, eq_non_tup, eq_non_lst, eq_bl_non, eq_bl_int, eq_bl_str, eq_bl_tup, eq_bl_lst, eq_int_non, eq_int_bl, eq_int_str, eq_int_tup, eq_int_lst, eq_str_non, eq_str_bl, eq_str_int, eq_str_tup, eq_str_lst, eq_tup_non, eq_tup_bl, eq_tup_int, eq_tup_str, eq_tup_tup, eq_tup_lst, eq_lst_non, eq_lst_bl, eq_lst_int, eq_lst_str, eq_lst_tup, eq_lst_lst, tr_non, tr_bl, tr_int, tr_str, tr_tup, tr_lst, ty_int_non, ty_int_bl, ty_int_int, ty_int_str, ty_int_tup, ty_int_lst, ty_bool_non, ty_bool_bl, ty_bool_int, ty_bool_str, ty_bool_tup, ty_bool_lst, ty_str_non, ty_str_bl, ty_str_int, ty_str_str, ty_str_tup, ty_str_lst, ty_tuple_non, ty_tuple_bl, ty_tuple_int, ty_tuple_str, ty_tuple_tup, ty_tuple_lst, ty_list_non, ty_list_bl, ty_list_int, ty_list_str, ty_list_tup, ty_list_lst, o1_neg, o1_not, o1_len_str, o1_len_tup, o1_len_lst, o1_len_scr, o1_tuple_lst, o1_tuple_tup, o1_list_lst, o1_list_tup, o1_all, o1_any, o1_sum, o1_int_int, o1_int_bl, o1_int_str, o1_str_int, o1_str_str, o1_repr_int, o1_repr_bl, o1_abs, o1_isi, o1_isB, o1_notB, o1_bits, o1_rev, o1_isN_non, o1_notN_non, o1_isN_bl, o1_notN_bl, o1_isN_int, o1_notN_int, o1_isN_str, o1_notN_str, o1_isN_tup, o1_notN_tup, o1_isN_lst, o1_notN_lst, o1_isN_ref, o1_notN_ref, o1_isN_scr, o1_notN_scr, sl_tup, sl_lst, sl_str, ao_int, ao_str, it_tup, it_lst, it_str, bg_nm, bg_tup, bg_lst, bg_nil, bg_cons, rc_add, rc_sub, rc_mul, rc_fdiv, rc_mod, rc_pow, rc_band, rc_bor, rc_bxor, rc_shl, rc_shr, rc_eq, rc_ne, rc_lt, rc_le, rc_gt, rc_ge, rc_in, rc_nin, rc_idx, rc_min, rc_max, rc_count, rc_join, wi_nil, wi_cons, sm_nil, sb_non, sb_bl, sb_int, sb_str, sb_tup, sb_lst, sb_ref, sb_own, no_nil, sm_cons, no_cons]
  have fin : ∀ c, Q (.ref M.length) (M ++ [.lst [.int 0, .int (31 + 48611 * K), .int 0, .int c]]) := fun c => q _ _ ⟨0, 31 + 48611 * K, 0, c, by simp⟩
  obtain ⟨L, hL⟩ : ∃ L : Int, L = ns.length := ⟨_, rfl⟩
  rw [← hL]
  split
  · rename_i h
    rw [wp_seq]
    simp [wp_nil, wp_ok, wp_bad, wp_exc, wp_bind, wp_sb, wp_opt_some, wp_opt_none, wp_opt_ite, wp_opt_bind, wp_opt_map, wp_ite, wp_calm, ex, evE, evEs, evB, evAnd, evOr, evT, evAll, evAny, evI, enter, fin1_rt, fin1_nx, fin1_xc, nx1_nx, nx1_rt, nx1_bk, nx1_ct, nx1_xc, mulOk, rngOk, D.isOwn, rs_non, rs_bl, rs_int, rs_str, rs_tup, rs_lst, rs_scr, rs_ow, o2_add_int, o2_sub_int, o2_mul_int, o2_fdiv_int, o2_mod_int, o2_pow_int, o2_band_int, o2_bor_int, o2_bxor_int, o2_shl_int, o2_shr_int, o2_lt_int, o2_le_int, o2_gt_int, o2_ge_int, o2_min_int, o2_max_int, o2_add_str, o2_add_tup, o2_add_lst, o2_mul_lst, o2_eq, o2_ne, o2_in, o2_nin, o2_idx_tup, o2_idx_lst, o2_idx_scr, o2_idx_str, o2_count, o2_join, eq_int, eq_str, eq_bl, eq_non_non, eq_non_bl, eq_non_int, eq_non_str, eq_non_tup, eq_non_lst, eq_bl_non, eq_bl_int, eq_bl_str, eq_bl_tup, eq_bl_lst, eq_int_non, eq_int_bl, eq_int_str, eq_int_tup, eq_int_lst, eq_str_non, eq_str_bl, eq_str_int, eq_str_tup, eq_str_lst, eq_tup_non, eq_tup_bl, eq_tup_int, eq_tup_str, eq_tup_tup, eq_tup_lst, eq_lst_non, eq_lst_bl, eq_lst_int, eq_lst_str, eq_lst_tup, eq_lst_lst, tr_non, tr_bl, tr_int, tr_str, tr_tup, tr_lst, ty_int_non, ty_int_bl, ty_int_int, ty_int_str, ty_int_tup, ty_int_lst, ty_bool_non, ty_bool_bl, ty_bool_int, ty_bool_str, ty_bool_tup, ty_bool_lst, ty_str_non, ty_str_bl, ty_str_int, ty_str_str, ty_str_tup, ty_str_lst, ty_tuple_non, ty_tuple_bl, ty_tuple_int, ty_tuple_str, ty_tuple_tup, ty_tuple_lst, ty_list_non, ty_list_bl, ty_list_int, ty_list_str, ty_list_tup, ty_list_lst, o1_neg, o1_not, o1_len_str, o1_len_tup, o1_len_lst, o1_len_scr, o1_tuple_lst, o1_tuple_tup, o1_list_lst, o1_list_tup, o1_all, o1_any, o1_sum, o1_int_int, o1_int_bl, o1_int_str, o1_str_int, o1_str_str, o1_repr_int, o1_repr_bl, o1_abs, o1_isi, o1_isB, o1_notB, o1_bits, o1_rev, o1_isN_non, o1_notN_non, o1_isN_bl, o1_notN_bl, o1_isN_int, o1_notN_int, o1_isN_str, o1_notN_str, o1_isN_tup, o1_notN_tup, o1_isN_lst, o1_notN_lst, o1_isN_ref, o1_notN_ref, o1_isN_scr, o1_notN_scr, sl_tup, sl_lst, sl_str, ao_int, ao_str, it_tup, it_lst, it_str, bg_nm, bg_tup, bg_lst, bg_nil, bg_cons, rc_add, rc_sub, rc_mul, rc_fdiv, rc_mod, rc_pow, rc_band, rc_bor, rc_bxor, rc_shl, rc_shr, rc_eq, rc_ne, rc_lt, rc_le, rc_gt, rc_ge, rc_in, rc_nin, rc_idx, rc_min, rc_max, rc_count, rc_join, wi_nil, wi_cons, sm_nil, sb_non, sb_bl, sb_int, sb_str, sb_tup, sb_lst, sb_ref, sb_own, no_nil, sm_cons, no_cons]
    rw [atI_nat hk (by omega), wp_opt_some]
    rw [wp_seq]
    simp [wp_nil, wp_ok, wp_bad, wp_exc, wp_bind, wp_sb, wp_opt_some, wp_opt_none, wp_opt_ite, wp_opt_bind, wp_opt_map, wp_ite, wp_calm, ex, evE, evEs, evB, evAnd, evOr, evT, evAll, evAny, evI, enter, fin1_rt, fin1_nx, fin1_xc, nx1_nx, nx1_rt, nx1_bk, nx1_ct, nx1_xc, mulOk, rngOk, D.isOwn, rs_non, rs_bl, rs_int, rs_str, rs_tup, rs_lst, rs_scr, rs_ow, o2_add_int, o2_sub_int, o2_mul_int, o2_fdiv_int, o2_mod_int, o2_pow_int, o2_band_int, o2_bor_int, o2_bxor_int, o2_shl_int, o2_shr_int, o2_lt_int, o2_le_int, o2_gt_int, o2_ge_int, o2_min_int, o2_max_int, o2_add_str, o2_add_tup, o2_add_lst, o2_mul_lst, o2_eq, o2_ne, o2_in, o2_nin, o2_idx_tup, o2_idx_lst, o2_idx_scr, o2_idx_str, o2_count, o2_join, eq_int, eq_str, eq_bl, eq_non_non, eq_non_bl, eq_non_int, eq_non_str, eq_non_tup, eq_non_lst, eq_bl_non, eq_bl_int, eq_bl_str, eq_bl_tup, eq_bl_lst, eq_int_non, eq_int_bl, eq_int_str, eq_int_tup, eq_int_lst, eq_str_non, eq_str_bl, eq_str_int, eq_str_tup, eq_str_lst, eq_tup_non, eq_tup_bl, eq_tup_int, eq_tup_str, eq_tup_tup, eq_tup_lst, eq_lst_non, eq_lst_bl, eq_lst_int, eq_lst_str, eq_lst_tup, eq_lst_lst, tr_non, tr_bl, tr_int, tr_str, tr_tup, tr_lst, ty_int_non, ty_int_bl, ty_int_int, ty_int_str, ty_int_tup, ty_int_lst, ty_bool_non, ty_bool_bl, ty_bool_int, ty_bool_str, ty_bool_tup, ty_bool_lst, ty_str_non, ty_str_bl, ty_str_int, ty_str_str, ty_str_tup, ty_str_lst, ty_tuple_non, ty_tuple_bl, ty_tuple_int, ty_tuple_str, ty_tuple_tup, ty_tuple_lst, ty_list_non, ty_list_bl, ty_list_int, ty_list_str, ty_list_tup, ty_list_lst, o1_neg, o1_not, o1_len_str, o1_len_tup, o1_len_lst, o1_len_scr, o1_tuple_lst, o1_tuple_tup, o1_list_lst, o1_list_tup, o1_all, o1_any, o1_sum, o1_int_int, o1_int_bl, o1_int_str, o1_str_int, o1_str_str, o1_repr_int, o1_repr_bl, o1_abs, o1_isi, o1_isB, o1_notB, o1_bits, o1_rev, o1_isN_non, o1_notN_non, o1_isN_bl, o1_notN_bl, o1_isN_int, o1_notN_int, o1_isN_str, o1_notN_str, o1_isN_tup, o1_notN_tup, o1_isN_lst, o1_notN_lst, o1_isN_ref, o1_notN_ref, o1_isN_scr, o1_notN_scr, sl_tup, sl_lst, sl_str, ao_int, ao_str, it_tup, it_lst, it_str, bg_nm, bg_tup, bg_lst, bg_nil, bg_cons, rc_add, rc_sub, rc_mul, rc_fdiv, rc_mod, rc_pow, rc_band, rc_bor, rc_bxor, rc_shl, rc_shr, rc_eq, rc_ne, rc_lt, rc_le, rc_gt, rc_ge, rc_in, rc_nin, rc_idx, rc_min, rc_max, rc_count, rc_join, wi_nil, wi_cons, sm_nil, sb_non, sb_bl, sb_int, sb_str, sb_tup, sb_lst, sb_ref, sb_own, no_nil, sm_cons, no_cons, sizeLine_eq]
    exact fin _
  · rw [wp_seq]
    simp [wp_nil, wp_ok, wp_bad, wp_exc, wp_bind, wp_sb, wp_opt_some, wp_opt_none, wp_opt_ite, wp_opt_bind, wp_opt_map, wp_ite, wp_calm, ex, evE, evEs, evB, evAnd, evOr, evT, evAll, evAny, evI, enter, fin1_rt, fin1_nx, fin1_xc, nx1_nx, nx1_rt, nx1_bk, nx1_ct, nx1_xc, mulOk, rngOk, D.isOwn, rs_non, rs_bl, rs_int, rs_str, rs_tup, rs_lst, rs_scr, rs_ow, o2_add_int, o2_sub_int, o2_mul_int, o2_fdiv_int, o2_mod_int, o2_pow_int, o2_band_int, o2_bor_int, o2_bxor_int, o2_shl_int, o2_shr_int, o2_lt_int, o2_le_int, o2_gt_int, o2_ge_int, o2_min_int, o2_max_int, o2_add_str, o2_add_tup, o2_add_lst, o2_mul_lst, o2_eq, o2_ne, o2_in, o2_nin, o2_idx_tup, o2_idx_lst, o2_idx_scr, o2_idx_str, o2_count, o2_join, eq_int, eq_str, eq_bl, eq_non_non, eq_non_bl, eq_non_int, eq_non_str, eq_non_tup, eq_non_lst, eq_bl_non, eq_bl_int, eq_bl_str, eq_bl_tup, eq_bl_lst, eq_int_non, eq_int_bl, eq_int_str, eq_int_tup, eq_int_lst, eq_str_non, eq_str_bl, eq_str_int, eq_str_tup, eq_str_lst, eq_tup_non, eq_tup_bl, eq_tup_int, eq_tup_str, eq_tup_tup, eq_tup_lst, eq_lst_non, eq_lst_bl, eq_lst_int, eq_lst_str, eq_lst_tup, eq_lst_lst, tr_non, tr_bl, tr_int, tr_str, tr_tup, tr_lst, ty_int_non, ty_int_bl, ty_int_int, ty_int_str, ty_int_tup, ty_int_lst, ty_bool_non, ty_bool_bl, ty_bool_int, ty_bool_str, ty_bool_tup, ty_bool_lst, ty_str_non, ty_str_bl, ty_str_int, ty_str_str, ty_str_tup, ty_str_lst, ty_tuple_non, ty_tuple_bl, ty_tuple_int, ty_tuple_str, ty_tuple_tup, ty_tuple_lst, ty_list_non, ty_list_bl, ty_list_int, ty_list_str, ty_list_tup, ty_list_lst, o1_neg, o1_not, o1_len_str, o1_len_tup, o1_len_lst, o1_len_scr, o1_tuple_lst, o1_tuple_tup, o1_list_lst, o1_list_tup, o1_all, o1_any, o1_sum, o1_int_int, o1_int_bl, o1_int_str, o1_str_int, o1_str_str, o1_repr_int, o1_repr_bl, o1_abs, o1_isi, o1_isB, o1_notB, o1_bits, o1_rev, o1_isN_non, o1_notN_non, o1_isN_bl, o1_notN_bl, o1_isN_int, o1_notN_int, o1_isN_str, o1_notN_str, o1_isN_tup, o1_notN_tup, o1_isN_lst, o1_notN_lst, o1_isN_ref, o1_notN_ref, o1_isN_scr, o1_notN_scr, sl_tup, sl_lst, sl_str, ao_int, ao_str, it_tup, it_lst, it_str, bg_nm, bg_tup, bg_lst, bg_nil, bg_cons, rc_add, rc_sub, rc_mul, rc_fdiv, rc_mod, rc_pow, rc_band, rc_bor, rc_bxor, rc_shl, rc_shr, rc_eq, rc_ne, rc_lt, rc_le, rc_gt, rc_ge, rc_in, rc_nin, rc_idx, rc_min, rc_max, rc_count, rc_join, wi_nil, wi_cons, sm_nil, sb_non, sb_bl, sb_int, sb_str, sb_tup, sb_lst, sb_ref, sb_own, no_nil, sm_cons, no_cons, sizeLine_eq]
    exact fin _
theorem law_body {R : MP.Env} (h : Specs R) (ns : List Int) (hns : ns.length ≤ 63) : wp (exs R b_law (enter f_law [.scr ns]) []) (fin1 (fun d _ => d = .bl true) fun _ _ _ => False) (fun _ _ _ => False) := by
  have i_b : ∀ (b : Bool) (lo hi : Int) (M : MH) (Q : D → MH → Prop) (E : Nat → List D → MH → Prop), wp (R.call 0 [.bl b, .int lo, .int hi] M) Q E = Q (.bl false) M := fun b lo hi M Q E => h.isint _ rfl lo hi M Q E
  have j_b : ∀ (b : Bool) (M : MH) (Q : D → MH → Prop) (E : Nat → List D → MH → Prop), wp (R.call 1 [.bl b] M) Q E = Q (.bl false) M := fun b M Q E => h.isnum _ rfl M Q E
  have i_n : ∀  (lo hi : Int) (M : MH) (Q : D → MH → Prop) (E : Nat → List D → MH → Prop), wp (R.call 0 [.non, .int lo, .int hi] M) Q E = Q (.bl false) M := fun  lo hi M Q E => h.isint _ rfl lo hi M Q E
  have j_n : ∀  (M : MH) (Q : D → MH → Prop) (E : Nat → List D → MH → Prop), wp (R.call 1 [.non] M) Q E = Q (.bl false) M := fun  M Q E => h.isnum _ rfl M Q E
  have i_s : ∀ (z : Str) (lo hi : Int) (M : MH) (Q : D → MH → Prop) (E : Nat → List D → MH → Prop), wp (R.call 0 [.str z, .int lo, .int hi] M) Q E = Q (.bl false) M := fun z lo hi M Q E => h.isint _ rfl lo hi M Q E
  have j_s : ∀ (z : Str) (M : MH) (Q : D → MH → Prop) (E : Nat → List D → MH → Prop), wp (R.call 1 [.str z] M) Q E = Q (.bl false) M := fun z M Q E => h.isnum _ rfl M Q E
  have i_t : ∀ (l : List D) (lo hi : Int) (M : MH) (Q : D → MH → Prop) (E : Nat → List D → MH → Prop), wp (R.call 0 [.tup l, .int lo, .int hi] M) Q E = Q (.bl false) M := fun l lo hi M Q E => h.isint _ rfl lo hi M Q E
  have j_t : ∀ (l : List D) (M : MH) (Q : D → MH → Prop) (E : Nat → List D → MH → Prop), wp (R.call 1 [.tup l] M) Q E = Q (.bl false) M := fun l M Q E => h.isnum _ rfl M Q E
  have i_l : ∀ (l : List D) (lo hi : Int) (M : MH) (Q : D → MH → Prop) (E : Nat → List D → MH → Prop), wp (R.call 0 [.lst l, .int lo, .int hi] M) Q E = Q (.bl false) M := fun l lo hi M Q E => h.isint _ rfl lo hi M Q E
  have j_l : ∀ (l : List D) (M : MH) (Q : D → MH → Prop) (E : Nat → List D → MH → Prop), wp (R.call 1 [.lst l] M) Q E = Q (.bl false) M := fun l M Q E => h.isnum _ rfl M Q E
  simp only [f_law, b_law]
  rw [wp_seq]
  simp [wp_nil, wp_ok, wp_bad, wp_exc, wp_bind, wp_sb, wp_opt_some, wp_opt_none, wp_opt_ite, wp_opt_bind, wp_opt_map, wp_ite, wp_calm, ex, evE, evEs, evB, evAnd, evOr, evT, evAll, evAny, evI, enter, fin1_rt, fin1_nx, fin1_xc, nx1_nx, nx1_rt, nx1_bk, nx1_ct, nx1_xc, mulOk, rngOk, D.isOwn, rs_non, rs_bl, rs_int, rs_str, rs_tup, rs_lst, rs_scr, rs_ow, o2_add_int, o2_sub_int, o2_mul_int, o2_fdiv_int, o2_mod_int, o2_pow_int, o2_band_int, o2_bor_int, o2_bxor_int, o2_shl_int, o2_shr_int, o2_lt_int, o2_le_int, o2_gt_int, o2_ge_int, o2_min_int, o2_max_int, o2_add_str, o2_add_tup, o2_add_lst, o2_mul_lst, o2_eq, o2_ne, o2_in, o2_nin, o2_idx_tup, o2_idx_lst, o2_idx_scr, o2_idx_str, o2_count, o2_join, eq_int, eq_str, eq_bl, eq_non_non, eq_non_bl, eq_non_int, eq_non_str, eq_non_tup, eq_non_lst, eq_bl_non, eq_bl_int, eq_bl_str, eq_bl_tup, eq_bl_lst, eq_int_non, eq_int_bl, eq_int_str, eq_int_tup, eq_int_lst, eq_str_non, eq_str_bl, eq_str_int, eq_str_tup, eq_str_lst, eq_tup_non, eq_tup_bl, eq_tup_int, eq_tup_str, eq_tup_tup, eq_tup_lst, eq_lst_non, eq_lst_bl, eq_lst_int, eq_lst_str, eq_lst_tup, eq_lst_lst, tr_non, tr_bl, tr_int, tr_str, tr_tup, tr_lst, ty_int_non, ty_int_bl, ty_int_int, ty_int_str, ty_int_tup, ty_int_lst, ty_bool_non, ty_bool_bl, ty_bool_int, ty_bool_str, ty_bool_tup, ty_bool_lst, ty_str_non, ty_str_bl, ty_str_int, ty_str_str, ty_str_tup, ty_str_lst, ty_tuple_non, ty_tuple_bl, ty_tuple_int, ty_tuple_str, ty_tuple_tup, ty_tuple_lst, ty_list_non, ty_list_bl, ty_list_int, ty_list_str, ty_list_tup, ty_list_lst, o1_neg, o1_not, o1_len_str, o1_len_tup, o1_len_lst, o1_len_scr, o1_tuple_lst, o1_tuple_tup, o1_list_lst, o1_list_tup, o1_all, o1_any, o1_sum, o1_int_int, o1_int_bl, o1_int_str, o1_str_int, o1_str_str, o1_repr_int, o1_repr_bl, o1_abs, o1_isi, o1_isB, o1_notB, o1_bits, o1_rev, o1_isN_non, o1_notN_non, o1_isN_bl, o1_notN_bl, o1_isN_int, o1_notN_int, o1_isN_str, o1_notN_str, o1_isN_tup, o1_notN_tup, o1_isN_lst, o1_notN_lst, o1_isN_ref, o1_notN_ref, o1_isN_scr, o1_notN_scr, sl_tup, sl_lst, sl_str, ao_int, ao_str, it_tup, it_lst, it_str, bg_nm, bg_tup, bg_lst, bg_nil, bg_cons, rc_add, rc_sub, rc_mul, rc_fdiv, rc_mod, rc_pow, rc_band, rc_bor, rc_bxor, rc_shl, rc_shr, rc_eq, rc_ne, rc_lt, rc_le, rc_gt, rc_ge, rc_in, rc_nin, rc_idx, rc_min, rc_max, rc_count, rc_join, wi_nil, wi_cons, sm_nil, sb_non, sb_bl, sb_int, sb_str, sb_tup, sb_lst, sb_ref, sb_own, no_nil, sm_cons, no_cons]
  obtain ⟨L, hL⟩ : ∃ L : Int, L = ns.length := ⟨_, rfl⟩
  rw [← hL]
  have hL2 : 0 ≤ L ∧ L ≤ 63 := by omega
  generalize hR : (if 1 < if L < 30 then L else 30 then if L < 30 then L else 30 else 1) = B
  have hB : -4611686018427387904 ≤ B ∧ B < 4611686018427387904 := by
    subst hR
    repeat' split
    all_goals omega
  refine ⟨hB, wp_loopF (fun i s M' => ∃ a1 a2 a3 a4 a5 a6 a7 a8 a9 a10 a11 a12, s = [.val (.scr ns), a1, a2, a3, a4, a5, a6, a7, a8, a9, a10, a11, a12]) ?h0 (fun i s M' h => rfl) (fun i x s M hx hs => ?_) (fun s M hs => ?_)⟩
  case h0 => exact ⟨_, _, _, _, _, _, _, _, _, _, _, _, rfl⟩
  · obtain ⟨a1, a2, a3, a4, a5, a6, a7, a8, a9, a10, a11, a12, rfl⟩ := hs
    obtain ⟨K, hK, rfl⟩ : ∃ K : Int, 0 ≤ K ∧ x = .int K := ⟨_, by
      have : (0 : Int) ≤ 0 + (i : Int) * 1 := by omega
      exact this, rngL_get hx⟩
    rw [wp_seq]
    simp [wp_nil, wp_ok, wp_bad, wp_exc, wp_bind, wp_sb, wp_opt_some, wp_opt_none, wp_opt_ite, wp_opt_bind, wp_opt_map, wp_ite, wp_calm, ex, evE, evEs, evB, evAnd, evOr, evT, evAll, evAny, evI, enter, fin1_rt, fin1_nx, fin1_xc, nx1_nx, nx1_rt, nx1_bk, nx1_ct, nx1_xc, mulOk, rngOk, D.isOwn, rs_non, rs_bl, rs_int, rs_str, rs_tup, rs_lst, rs_scr, rs_ow, o2_add_int, o2_sub_int, o2_mul_int, o2_fdiv_int, o2_mod_int, o2_pow_int, o2_band_int, o2_bor_int, o2_bxor_int, o2_shl_int, o2_shr_int, o2_lt_int, o2_le_int, o2_gt_int, o2_ge_int, o2_min_int, o2_max_int, o2_add_str, o2_add_tup, o2_add_lst, o2_mul_lst, o2_eq, o2_ne, o2_in, o2_nin, o2_idx_tup, o2_idx_lst, o2_idx_scr, o2_idx_str, o2_count, o2_join, eq_int, eq_str, eq_bl, eq_non_non, eq_non_bl, eq_non_int, eq_non_str, eq_non_tup, eq_non_lst, eq_bl_non, eq_bl_int, eq_bl_str, eq_bl_tup, eq_bl_lst, eq_int_non, eq_int_bl, eq_int_str, eq_int_tup, eq_int_lst, eq_str_non, eq_str_bl, eq_str_int, eq_str_tup, eq_str_lst, eq_tup_non, eq_tup_bl, eq_tup_int, eq_tup_str, eq_tup_tup, eq_tup_lst, eq_lst_non, eq_lst_bl, eq_lst_int, eq_lst_str, eq_lst_tup, eq_lst_lst, tr_non, tr_bl, tr_int, tr_str, tr_tup, tr_lst, ty_int_non, ty_int_bl, ty_int_int, ty_int_str, ty_int_tup, ty_int_lst, ty_bool_non, ty_bool_bl, ty_bool_int, ty_bool_str, ty_bool_tup, ty_bool_lst, ty_str_non, ty_str_bl, ty_str_int, ty_str_str, ty_str_tup, ty_str_lst, ty_tuple_non, ty_tuple_bl, ty_tuple_int, ty_tuple_str, ty_tuple_tup, ty_tuple_lst, ty_list_non, ty_list_bl, ty_list_int, ty_list_str, ty_list_tup, ty_list_lst, o1_neg, o1_not, o1_len_str, o1_len_tup, o1_len_lst, o1_len_scr, o1_tuple_lst, o1_tuple_tup, o1_list_lst, o1_list_tup, o1_all, o1_any, o1_sum, o1_int_int, o1_int_bl, o1_int_str, o1_str_int, o1_str_str, o1_repr_int, o1_repr_bl, o1_abs, o1_isi, o1_isB, o1_notB, o1_bits, o1_rev, o1_isN_non, o1_notN_non, o1_isN_bl, o1_notN_bl, o1_isN_int, o1_notN_int, o1_isN_str, o1_notN_str, o1_isN_tup, o1_notN_tup, o1_isN_lst, o1_notN_lst, o1_isN_ref, o1_notN_ref, o1_isN_scr, o1_notN_scr, sl_tup, sl_lst, sl_str, ao_int, ao_str, it_tup, it_lst, it_str, bg_nm, bg_tup, bg_lst, bg_nil, bg_cons, rc_add, rc_sub, rc_mul, rc_fdiv, rc_mod, rc_pow, rc_band, rc_bor, rc_bxor, rc_shl, rc_shr, rc_eq, rc_ne, rc_lt, rc_le, rc_gt, rc_ge, rc_in, rc_nin, rc_idx, rc_min, rc_max, rc_count, rc_join, wi_nil, wi_cons, sm_nil, sb_non, sb_bl, sb_int, sb_str, sb_tup, sb_lst, sb_ref, sb_own, no_nil, sm_cons, no_cons]
    refine h.bag hK fun M r hb => ?_
    rw [wp_seq]
    simp [wp_nil, wp_ok, wp_bad, wp_exc, wp_bind, wp_sb, wp_opt_some, wp_opt_none, wp_opt_ite, wp_opt_bind, wp_opt_map, wp_ite, wp_calm, ex, evE, evEs, evB, evAnd, evOr, evT, evAll, evAny, evI, enter, fin1_rt, fin1_nx, fin1_xc, nx1_nx, nx1_rt, nx1_bk, nx1_ct, nx1_xc, mulOk, rngOk, D.isOwn, rs_non, rs_bl, rs_int, rs_str, rs_tup, rs_lst, rs_scr, rs_ow, o2_add_int, o2_sub_int, o2_mul_int, o2_fdiv_int, o2_mod_int, o2_pow_int, o2_band_int, o2_bor_int, o2_bxor_int, o2_shl_int, o2_shr_int, o2_lt_int, o2_le_int, o2_gt_int, o2_ge_int, o2_min_int, o2_max_int, o2_add_str, o2_add_tup, o2_add_lst, o2_mul_lst, o2_eq, o2_ne, o2_in, o2_nin, o2_idx_tup, o2_idx_lst, o2_idx_scr, o2_idx_str, o2_count, o2_join, eq_int, eq_str, eq_bl, eq_non_non, eq_non_bl, eq_non_int, eq_non_str, eq_non_tup, eq_non_lst, eq_bl_non, eq_bl_int, eq_bl_str, eq_bl_tup, eq_bl_lst, eq_int_non, eq_int_bl, eq_int_str, eq_int_tup, eq_int_lst, eq_str_non, eq_str_bl, eq_str_int, eq_str_tup, eq_str_lst, eq_tup_non, eq_tup_bl, eq_tup_int, eq_tup_str, eq_tup_tup, eq_tup_lst, eq_lst_non, eq_lst_bl, eq_lst_int, eq_lst_str, eq_lst_tup, eq_lst_lst, tr_non, tr_bl, tr_int, tr_str, tr_tup, tr_lst, ty_int_non, ty_int_bl, ty_int_int, ty_int_str, ty_int_tup, ty_int_lst, ty_bool_non, ty_bool_bl, ty_bool_int, ty_bool_str, ty_bool_tup, ty_bool_lst, ty_str_non, ty_str_bl, ty_str_int, ty_str_str, ty_str_tup, ty_str_lst, ty_tuple_non, ty_tuple_bl, ty_tuple_int, ty_tuple_str, ty_tuple_tup, ty_tuple_lst, ty_list_non, ty_list_bl, ty_list_int, ty_list_str, ty_list_tup, ty_list_lst, o1_neg, o1_not, o1_len_str, o1_len_tup, o1_len_lst, o1_len_scr, o1_tuple_lst, o1_tuple_tup, o1_list_lst, o1_list_tup, o1_all, o1_any, o1_sum, o1_int_int, o1_int_bl, o1_int_str, o1_str_int, o1_str_str, o1_repr_int, o1_repr_bl, o1_abs, o1_isi, o1_isB, o1_notB, o1_bits, o1_rev, o1_isN_non, o1_notN_non, o1_isN_bl, o1_notN_bl, o1_isN_int, o1_notN_int, o1_isN_str, o1_notN_str, o1_isN_tup, o1_notN_tup, o1_isN_lst, o1_notN_lst, o1_isN_ref, o1_notN_ref, o1_isN_scr, o1_notN_scr, sl_tup, sl_lst, sl_str, ao_int, ao_str, it_tup, it_lst, it_str, bg_nm, bg_tup, bg_lst, bg_nil, bg_cons, rc_add, rc_sub, rc_mul, rc_fdiv, rc_mod, rc_pow, rc_band, rc_bor, rc_bxor, rc_shl, rc_shr, rc_eq, rc_ne, rc_lt, rc_le, rc_gt, rc_ge, rc_in, rc_nin, rc_idx, rc_min, rc_max, rc_count, rc_join, wi_nil, wi_cons, sm_nil, sb_non, sb_bl, sb_int, sb_str, sb_tup, sb_lst, sb_ref, sb_own, no_nil, sm_cons, no_cons]
    refine h.integer hb fun N M hb => ?_
    rw [wp_seq]
    simp [wp_nil, wp_ok, wp_bad, wp_exc, wp_bind, wp_sb, wp_opt_some, wp_opt_none, wp_opt_ite, wp_opt_bind, wp_opt_map, wp_ite, wp_calm, ex, evE, evEs, evB, evAnd, evOr, evT, evAll, evAny, evI, enter, fin1_rt, fin1_nx, fin1_xc, nx1_nx, nx1_rt, nx1_bk, nx1_ct, nx1_xc, mulOk, rngOk, D.isOwn, rs_non, rs_bl, rs_int, rs_str, rs_tup, rs_lst, rs_scr, rs_ow, o2_add_int, o2_sub_int, o2_mul_int, o2_fdiv_int, o2_mod_int, o2_pow_int, o2_band_int, o2_bor_int, o2_bxor_int, o2_shl_int, o2_shr_int, o2_lt_int, o2_le_int, o2_gt_int, o2_ge_int, o2_min_int, o2_max_int, o2_add_str, o2_add_tup, o2_add_lst, o2_mul_lst, o2_eq, o2_ne, o2_in, o2_nin, o2_idx_tup, o2_idx_lst, o2_idx_scr, o2_idx_str, o2_count, o2_join, eq_int, eq_str, eq_bl, eq_non_non, eq_non_bl, eq_non_int, eq_non_str, eq_non_tup, eq_non_lst, eq_bl_non, eq_bl_int, eq_bl_str, eq_bl_tup, eq_bl_lst, eq_int_non, eq_int_bl, eq_int_str, eq_int_tup, eq_int_lst, eq_str_non, eq_str_bl, eq_str_int, eq_str_tup, eq_str_lst, eq_tup_non, eq_tup_bl, eq_tup_int, eq_tup_str, eq_tup_tup, eq_tup_lst, eq_lst_non, eq_lst_bl, eq_lst_int, eq_lst_str, eq_lst_tup, eq_lst_lst, tr_non, tr_bl, tr_int, tr_str, tr_tup, tr_lst, ty_int_non, ty_int_bl, ty_int_int, ty_int_str, ty_int_tup, ty_int_lst, ty_bool_non, ty_bool_bl, ty_bool_int, ty_bool_str, ty_bool_tup, ty_bool_lst, ty_str_non, ty_str_bl, ty_str_int, ty_str_str, ty_str_tup, ty_str_lst, ty_tuple_non, ty_tuple_bl, ty_tuple_int, ty_tuple_str, ty_tuple_tup, ty_tuple_lst, ty_list_non, ty_list_bl, ty_list_int, ty_list_str, ty_list_tup, ty_list_lst, o1_neg, o1_not, o1_len_str, o1_len_tup, o1_len_lst, o1_len_scr, o1_tuple_lst, o1_tuple_tup, o1_list_lst, o1_list_tup, o1_all, o1_any, o1_sum, o1_int_int, o1_int_bl, o1_int_str, o1_str_int, o1_str_str, o1_repr_int, o1_repr_bl, o1_abs, o1_isi, o1_isB, o1_notB, o1_bits, o1_rev, o1_isN_non, o1_notN_non, o1_isN_bl, o1_notN_bl, o1_isN_int, o1_notN_int, o1_isN_str, o1_notN_str, o1_isN_tup, o1_notN_tup, o1_isN_lst, o1_notN_lst, o1_isN_ref, o1_notN_ref, o1_isN_scr, o1_notN_scr, sl_tup, sl_lst, sl_str, ao_int, ao_str, it_tup, it_lst, it_str, bg_nm, bg_tup, bg_lst, bg_nil, bg_cons, rc_add, rc_sub, rc_mul, rc_fdiv, rc_mod, rc_pow, rc_band, rc_bor, rc_bxor, rc_shl, rc_shr, rc_eq, rc_ne, rc_lt, rc_le, rc_gt, rc_ge, rc_in, rc_nin, rc_idx, rc_min, rc_max, rc_count, rc_join, wi_nil, wi_cons, sm_nil, sb_non, sb_bl, sb_int, sb_str, sb_tup, sb_lst, sb_ref, sb_own, no_nil, sm_cons, no_cons]
    rw [h.wrap]
    simp [wp_nil, wp_ok, wp_bad, wp_exc, wp_bind, wp_sb, wp_opt_some, wp_opt_none, wp_opt_ite, wp_opt_bind, wp_opt_map, wp_ite, wp_calm, ex, evE, evEs, evB, evAnd, evOr, evT, evAll, evAny, evI, enter, fin1_rt, fin1_nx, fin1_xc, nx1_nx, nx1_rt, nx1_bk, nx1_ct, nx1_xc, mulOk, rngOk, D.isOwn, rs_non, rs_bl, rs_int, rs_str, rs_tup, rs_lst, rs_scr, rs_ow, o2_add_int, o2_sub_int, o2_mul_int, o2_fdiv_int, o2_mod_int, o2_pow_int, o2_band_int, o2_bor_int, o2_bxor_int, o2_shl_int, o2_shr_int, o2_lt_int, o2_le_int, o2_gt_int, o2_ge_int, o2_min_int, o2_max_int, o2_add_str, o2_add_tup, o2_add_lst, o2_mul_lst, o2_eq, o2_ne, o2_in, o2_nin, o2_idx_tup, o2_idx_lst, o2_idx_scr, o2_idx_str, o2_count, o2_join, eq_int, eq_str, eq_bl, eq_non_non, eq_non_bl, eq_non_int, eq_non_str, eq_non_tup, eq_non_lst, eq_bl_non, eq_bl_int, eq_bl_str, eq_bl_tup, eq_bl_lst, eq_int_non, eq_int_bl, eq_int_str, eq_int_tup, eq_int_lst, eq_str_non, eq_str_bl, eq_str_int, eq_str_tup, eq_str_lst, eq_tup_non, eq_tup_bl, eq_tup_int, eq_tup_str, eq_tup_tup, eq_tup_lst, eq_lst_non, eq_lst_bl, eq_lst_int, eq_lst_str, eq_lst_tup, eq_lst_lst, tr_non, tr_bl, tr_int, tr_str, tr_tup, tr_lst, ty_int_non, ty_int_bl, ty_int_int, ty_int_str, ty_int_tup, ty_int_lst, ty_bool_non, ty_bool_bl, ty_bool_int, ty_bool_str, ty_bool_tup, ty_bool_lst, ty_str_non, ty_str_bl, ty_str_int, ty_str_str, ty_str_tup, ty_str_lst, ty_tuple_non, ty_tuple_bl, ty_tuple_int, ty_tuple_str, ty_tuple_tup, ty_tuple_lst, ty_list_non, ty_list_bl, ty_list_int, ty_list_str, ty_list_tup, ty_list_lst, o1_neg, o1_not, o1_len_str, o1_len_tup, o1_len_lst, o1_len_scr, o1_tuple_lst, o1_tuple_tup, o1_list_lst, o1_list_tup, o1_all, o1_any, o1_sum, o1_int_int, o1_int_bl, o1_int_str, o1_str_int, o1_str_str, o1_repr_int, o1_repr_bl, o1_abs, o1_isi, o1_isB, o1_notB, o1_bits, o1_rev, o1_isN_non, o1_notN_non, o1_isN_bl, o1_notN_bl, o1_isN_int, o1_notN_int, o1_isN_str, o1_notN_str, o1_isN_tup, o1_notN_tup, o1_isN_lst, o1_notN_lst, o1_isN_ref, o1_notN_ref, o1_isN_scr, o1_notN_scr, sl_tup, sl_lst, sl_str, ao_int, ao_str, it_tup, it_lst, it_str, bg_nm, bg_tup, bg_lst, bg_nil, bg_cons, rc_add, rc_sub, rc_mul, rc_fdiv, rc_mod, rc_pow, rc_band, rc_bor, rc_bxor, rc_shl, rc_shr, rc_eq, rc_ne, rc_lt, rc_le, rc_gt, rc_ge, rc_in, rc_nin, rc_idx, rc_min, rc_max, rc_count, rc_join, wi_nil, wi_cons, sm_nil, sb_non, sb_bl, sb_int, sb_str, sb_tup, sb_lst, sb_ref, sb_own, no_nil, sm_cons, no_cons]
    have hw1 : ¬ ((N + 2147483648) % 4294967296 + -2147483648 < -2147483648) := by omega
    have hw2 : ¬ (2147483647 < (N + 2147483648) % 4294967296 + -2147483648) := by omega
    have hw3 : ((N + 2147483648) % 4294967296 + -2147483648 - N) % 4294967296 = 0 := by omega
    rw [wp_seq]
    simp [wp_nil, wp_ok, wp_bad, wp_exc, wp_bind, wp_sb, wp_opt_some, wp_opt_none, wp_opt_ite, wp_opt_bind, wp_opt_map, wp_ite, wp_calm, ex, evE, evEs, evB, evAnd, evOr, evT, evAll, evAny, evI, enter, fin1_rt, fin1_nx, fin1_xc, nx1_nx, nx1_rt, nx1_bk, nx1_ct, nx1_xc, mulOk, rngOk, D.isOwn, rs_non, rs_bl, rs_int, rs_str, rs_tup, rs_lst, rs_scr, rs_ow, o2_add_int, o2_sub_int, o2_mul_int, o2_fdiv_int, o2_mod_int, o2_pow_int, o2_band_int, o2_bor_int, o2_bxor_int, o2_shl_int, o2_shr_int, o2_lt_int, o2_le_int, o2_gt_int, o2_ge_int, o2_min_int, o2_max_int, o2_add_str, o2_add_tup, o2_add_lst, o2_mul_lst, o2_eq, o2_ne, o2_in, o2_nin, o2_idx_tup, o2_idx_lst, o2_idx_scr, o2_idx_str, o2_count, o2_join, eq_int, eq_str, eq_bl, eq_non_non, eq_non_bl, eq_non_int, eq_non_str, eq_non_tup, eq_non_lst, eq_bl_non, eq_bl_int, eq_bl_str, eq_bl_tup, eq_bl_lst, eq_int_non, eq_int_bl, eq_int_str, eq_int_tup, eq_int_lst, eq_str_non, eq_str_bl, eq_str_int, eq_str_tup, eq_str_lst, eq_tup_non, eq_tup_bl, eq_tup_int, eq_tup_str, eq_tup_tup, eq_tup_lst, eq_lst_non, eq_lst_bl, eq_lst_int, eq_lst_str, eq_lst_tup, eq_lst_lst, tr_non, tr_bl, tr_int, tr_str, tr_tup, tr_lst, ty_int_non, ty_int_bl, ty_int_int, ty_int_str, ty_int_tup, ty_int_lst, ty_bool_non, ty_bool_bl, ty_bool_int, ty_bool_str, ty_bool_tup, ty_bool_lst, ty_str_non, ty_str_bl, ty_str_int, ty_str_str, ty_str_tup, ty_str_lst, ty_tuple_non, ty_tuple_bl, ty_tuple_int, ty_tuple_str, ty_tuple_tup, ty_tuple_lst, ty_list_non, ty_list_bl, ty_list_int, ty_list_str, ty_list_tup, ty_list_lst, o1_neg, o1_not, o1_len_str, o1_len_tup, o1_len_lst, o1_len_scr, o1_tuple_lst, o1_tuple_tup, o1_list_lst, o1_list_tup, o1_all, o1_any, o1_sum, o1_int_int, o1_int_bl, o1_int_str, o1_str_int, o1_str_str, o1_repr_int, o1_repr_bl, o1_abs, o1_isi, o1_isB, o1_notB, o1_bits, o1_rev, o1_isN_non, o1_notN_non, o1_isN_bl, o1_notN_bl, o1_isN_int, o1_notN_int, o1_isN_str, o1_notN_str, o1_isN_tup, o1_notN_tup, o1_isN_lst, o1_notN_lst, o1_isN_ref, o1_notN_ref, o1_isN_scr, o1_notN_scr, sl_tup, sl_lst, sl_str, ao_int, ao_str, it_tup, it_lst, it_str, bg_nm, bg_tup, bg_lst, bg_nil, bg_cons, rc_add, rc_sub, rc_mul, rc_fdiv, rc_mod, rc_pow, rc_band, rc_bor, rc_bxor, rc_shl, rc_shr, rc_eq, rc_ne, rc_lt, rc_le, rc_gt, rc_ge, rc_in, rc_nin, rc_idx, rc_min, rc_max, rc_count, rc_join, wi_nil, wi_cons, sm_nil, sb_non, sb_bl, sb_int, sb_str, sb_tup, sb_lst, sb_ref, sb_own, no_nil, sm_cons, no_cons, hw1, hw2, hw3]
    rw [wp_seq]
    simp [wp_nil, wp_ok, wp_bad, wp_exc, wp_bind, wp_sb, wp_opt_some, wp_opt_none, wp_opt_ite, wp_opt_bind, wp_opt_map, wp_ite, wp_calm, ex, evE, evEs, evB, evAnd, evOr, evT, evAll, evAny, evI, enter, fin1_rt, fin1_nx, fin1_xc, nx1_nx, nx1_rt, nx1_bk, nx1_ct, nx1_xc, mulOk, rngOk, D.isOwn, rs_non, rs_bl, rs_int, rs_str, rs_tup, rs_lst, rs_scr, rs_ow, o2_add_int, o2_sub_int, o2_mul_int, o2_fdiv_int, o2_mod_int, o2_pow_int, o2_band_int, o2_bor_int, o2_bxor_int, o2_shl_int, o2_shr_int, o2_lt_int, o2_le_int, o2_gt_int, o2_ge_int, o2_min_int, o2_max_int, o2_add_str, o2_add_tup, o2_add_lst, o2_mul_lst, o2_eq, o2_ne, o2_in, o2_nin, o2_idx_tup, o2_idx_lst, o2_idx_scr, o2_idx_str, o2_count, o2_join, eq_int, eq_str, eq_bl, eq_non_non, eq_non_bl, eq_non_int, eq_non_str, eq_non_tup, eq_non_lst, eq_bl_non, eq_bl_int, eq_bl_str, eq_bl_tup, eq_bl_lst, eq_int_non, eq_int_bl, eq_int_str, eq_int_tup, eq_int_lst, eq_str_non, eq_str_bl, eq_str_int, eq_str_tup, eq_str_lst, eq_tup_non, eq_tup_bl, eq_tup_int, eq_tup_str, eq_tup_tup, eq_tup_lst, eq_lst_non, eq_lst_bl, eq_lst_int, eq_lst_str, eq_lst_tup, eq_lst_lst, tr_non, tr_bl, tr_int, tr_str, tr_tup, tr_lst, ty_int_non, ty_int_bl, ty_int_int, ty_int_str, ty_int_tup, ty_int_lst, ty_bool_non, ty_bool_bl, ty_bool_int, ty_bool_str, ty_bool_tup, ty_bool_lst, ty_str_non, ty_str_bl, ty_str_int, ty_str_str, ty_str_tup, ty_str_lst, ty_tuple_non, ty_tuple_bl, ty_tuple_int, ty_tuple_str, ty_tuple_tup, ty_tuple_lst, ty_list_non, ty_list_bl, ty_list_int, ty_list_str, ty_list_tup, ty_list_lst, o1_neg, o1_not, o1_len_str, o1_len_tup, o1_len_lst, o1_len_scr, o1_tuple_lst, o1_tuple_tup, o1_list_lst, o1_list_tup, o1_all, o1_any, o1_sum, o1_int_int, o1_int_bl, o1_int_str, o1_str_int, o1_str_str, o1_repr_int, o1_repr_bl, o1_abs, o1_isi, o1_isB, o1_notB, o1_bits, o1_rev, o1_isN_non, o1_notN_non, o1_isN_bl, o1_notN_bl, o1_isN_int, o1_notN_int, o1_isN_str, o1_notN_str, o1_isN_tup, o1_notN_tup, o1_isN_lst, o1_notN_lst, o1_isN_ref, o1_notN_ref, o1_isN_scr, o1_notN_scr, sl_tup, sl_lst, sl_str, ao_int, ao_str, it_tup, it_lst, it_str, bg_nm, bg_tup, bg_lst, bg_nil, bg_cons, rc_add, rc_sub, rc_mul, rc_fdiv, rc_mod, rc_pow, rc_band, rc_bor, rc_bxor, rc_shl, rc_shr, rc_eq, rc_ne, rc_lt, rc_le, rc_gt, rc_ge, rc_in, rc_nin, rc_idx, rc_min, rc_max, rc_count, rc_join, wi_nil, wi_cons, sm_nil, sb_non, sb_bl, sb_int, sb_str, sb_tup, sb_lst, sb_ref, sb_own, no_nil, sm_cons, no_cons]
    refine h.integer hb fun lo M hb => ?_
    rw [wp_seq]
    simp [wp_nil, wp_ok, wp_bad, wp_exc, wp_bind, wp_sb, wp_opt_some, wp_opt_none, wp_opt_ite, wp_opt_bind, wp_opt_map, wp_ite, wp_calm, ex, evE, evEs, evB, evAnd, evOr, evT, evAll, evAny, evI, enter, fin1_rt, fin1_nx, fin1_xc, nx1_nx, nx1_rt, nx1_bk, nx1_ct, nx1_xc, mulOk, rngOk, D.isOwn, rs_non, rs_bl, rs_int, rs_str, rs_tup, rs_lst, rs_scr, rs_ow, o2_add_int, o2_sub_int, o2_mul_int, o2_fdiv_int, o2_mod_int, o2_pow_int, o2_band_int, o2_bor_int, o2_bxor_int, o2_shl_int, o2_shr_int, o2_lt_int, o2_le_int, o2_gt_int, o2_ge_int, o2_min_int, o2_max_int, o2_add_str, o2_add_tup, o2_add_lst, o2_mul_lst, o2_eq, o2_ne, o2_in, o2_nin, o2_idx_tup, o2_idx_lst, o2_idx_scr, o2_idx_str, o2_count, o2_join, eq_int, eq_str, eq_bl, eq_non_non, eq_non_bl, eq_non_int, eq_non_str, eq_non_tup, eq_non_lst, eq_bl_non, eq_bl_int, eq_bl_str, eq_bl_tup, eq_bl_lst, eq_int_non, eq_int_bl, eq_int_str, eq_int_tup, eq_int_lst, eq_str_non, eq_str_bl, eq_str_int, eq_str_tup, eq_str_lst, eq_tup_non, eq_tup_bl, eq_tup_int, eq_tup_str, eq_tup_tup, eq_tup_lst, eq_lst_non, eq_lst_bl, eq_lst_int, eq_lst_str, eq_lst_tup, eq_lst_lst, tr_non, tr_bl, tr_int, tr_str, tr_tup, tr_lst, ty_int_non, ty_int_bl, ty_int_int, ty_int_str, ty_int_tup, ty_int_lst, ty_bool_non, ty_bool_bl, ty_bool_int, ty_bool_str, ty_bool_tup, ty_bool_lst, ty_str_non, ty_str_bl, ty_str_int, ty_str_str, ty_str_tup, ty_str_lst, ty_tuple_non, ty_tuple_bl, ty_tuple_int, ty_tuple_str, ty_tuple_tup, ty_tuple_lst, ty_list_non, ty_list_bl, ty_list_int, ty_list_str, ty_list_tup, ty_list_lst, o1_neg, o1_not, o1_len_str, o1_len_tup, o1_len_lst, o1_len_scr, o1_tuple_lst, o1_tuple_tup, o1_list_lst, o1_list_tup, o1_all, o1_any, o1_sum, o1_int_int, o1_int_bl, o1_int_str, o1_str_int, o1_str_str, o1_repr_int, o1_repr_bl, o1_abs, o1_isi, o1_isB, o1_notB, o1_bits, o1_rev, o1_isN_non, o1_notN_non, o1_isN_bl, o1_notN_bl, o1_isN_int, o1_notN_int, o1_isN_str, o1_notN_str, o1_isN_tup, o1_notN_tup, o1_isN_lst, o1_notN_lst, o1_isN_ref, o1_notN_ref, o1_isN_scr, o1_notN_scr, sl_tup, sl_lst, sl_str, ao_int, ao_str, it_tup, it_lst, it_str, bg_nm, bg_tup, bg_lst, bg_nil, bg_cons, rc_add, rc_sub, rc_mul, rc_fdiv, rc_mod, rc_pow, rc_band, rc_bor, rc_bxor, rc_shl, rc_shr, rc_eq, rc_ne, rc_lt, rc_le, rc_gt, rc_ge, rc_in, rc_nin, rc_idx, rc_min, rc_max, rc_count, rc_join, wi_nil, wi_cons, sm_nil, sb_non, sb_bl, sb_int, sb_str, sb_tup, sb_lst, sb_ref, sb_own, no_nil, sm_cons, no_cons, sizeLine_eq]
    refine h.draw hb (by decide) (by decide +kernel) fun x M h1 h2 hb => ?_
    refine h.one hb (by simp) (by simp) fun d M hd hb => ?_
    obtain ⟨j, rfl⟩ := all_int rfl hd
    simp [wp_nil, wp_ok, wp_bad, wp_exc, wp_bind, wp_sb, wp_opt_some, wp_opt_none, wp_opt_ite, wp_opt_bind, wp_opt_map, wp_ite, wp_calm, ex, evE, evEs, evB, evAnd, evOr, evT, evAll, evAny, evI, enter, fin1_rt, fin1_nx, fin1_xc, nx1_nx, nx1_rt, nx1_bk, nx1_ct, nx1_xc, mulOk, rngOk, D.isOwn, rs_non, rs_bl, rs_int, rs_str, rs_tup, rs_lst, rs_scr, rs_ow, o2_add_int, o2_sub_int, o2_mul_int, o2_fdiv_int, o2_mod_int, o2_pow_int, o2_band_int, o2_bor_int, o2_bxor_int, o2_shl_int, o2_shr_int, o2_lt_int, o2_le_int, o2_gt_int, o2_ge_int, o2_min_int, o2_max_int, o2_add_str, o2_add_tup, o2_add_lst, o2_mul_lst, o2_eq, o2_ne, o2_in, o2_nin, o2_idx_tup, o2_idx_lst, o2_idx_scr, o2_idx_str, o2_count, o2_join, eq_int, eq_str, eq_bl, eq_non_non, eq_non_bl, eq_non_int, eq_non_str, eq_non_tup, eq_non_lst, eq_bl_non, eq_bl_int, eq_bl_str, eq_bl_tup, eq_bl_lst, eq_int_non, eq_int_bl, eq_int_str, eq_int_tup, eq_int_lst, eq_str_non, eq_str_bl, eq_str_int, eq_str_tup, eq_str_lst, eq_tup_non, eq_tup_bl, eq_tup_int, eq_tup_str, eq_tup_tup, eq_tup_lst, eq_lst_non, eq_lst_bl, eq_lst_int, eq_lst_str, eq_lst_tup, eq_lst_lst, tr_non, tr_bl, tr_int, tr_str, tr_tup, tr_lst, ty_int_non, ty_int_bl, ty_int_int, ty_int_str, ty_int_tup, ty_int_lst, ty_bool_non, ty_bool_bl, ty_bool_int, ty_bool_str, ty_bool_tup, ty_bool_lst, ty_str_non, ty_str_bl, ty_str_int, ty_str_str, ty_str_tup, ty_str_lst, ty_tuple_non, ty_tuple_bl, ty_tuple_int, ty_tuple_str, ty_tuple_tup, ty_tuple_lst, ty_list_non, ty_list_bl, ty_list_int, ty_list_str, ty_list_tup, ty_list_lst, o1_neg, o1_not, o1_len_str, o1_len_tup, o1_len_lst, o1_len_scr, o1_tuple_lst, o1_tuple_tup, o1_list_lst, o1_list_tup, o1_all, o1_any, o1_sum, o1_int_int, o1_int_bl, o1_int_str, o1_str_int, o1_str_str, o1_repr_int, o1_repr_bl, o1_abs, o1_isi, o1_isB, o1_notB, o1_bits, o1_rev, o1_isN_non, o1_notN_non, o1_isN_bl, o1_notN_bl, o1_isN_int, o1_notN_int, o1_isN_str, o1_notN_str, o1_isN_tup, o1_notN_tup, o1_isN_lst, o1_notN_lst, o1_isN_ref, o1_notN_ref, o1_isN_scr, o1_notN_scr, sl_tup, sl_lst, sl_str, ao_int, ao_str, it_tup, it_lst, it_str, bg_nm, bg_tup, bg_lst, bg_nil, bg_cons, rc_add, rc_sub, rc_mul, rc_fdiv, rc_mod, rc_pow, rc_band, rc_bor, rc_bxor, rc_shl, rc_shr, rc_eq, rc_ne, rc_lt, rc_le, rc_gt, rc_ge, rc_in, rc_nin, rc_idx, rc_min, rc_max, rc_count, rc_join, wi_nil, wi_cons, sm_nil, sb_non, sb_bl, sb_int, sb_str, sb_tup, sb_lst, sb_ref, sb_own, no_nil, sm_cons, no_cons]
    rw [wp_seq]
    refine wp_test ?_ ?_
    · simp [wp_nil, wp_ok, wp_bad, wp_exc, wp_bind, wp_sb, wp_opt_some, wp_opt_none, wp_opt_ite, wp_opt_bind, wp_opt_map, wp_ite, wp_calm, ex, evE, evEs, evB, evAnd, evOr, evT, evAll, evAny, evI, enter, fin1_rt, fin1_nx, fin1_xc, nx1_nx, nx1_rt, nx1_bk, nx1_ct, nx1_xc, mulOk, rngOk, D.isOwn, rs_non, rs_bl, rs_int, rs_str, rs_tup, rs_lst, rs_scr, rs_ow, o2_add_int, o2_sub_int, o2_mul_int, o2_fdiv_int, o2_mod_int, o2_pow_int, o2_band_int, o2_bor_int, o2_bxor_int, o2_shl_int, o2_shr_int, o2_lt_int, o2_le_int, o2_gt_int, o2_ge_int, o2_min_int, o2_max_int, o2_add_str, o2_add_tup, o2_add_lst, o2_mul_lst, o2_eq, o2_ne, o2_in, o2_nin, o2_idx_tup, o2_idx_lst, o2_idx_scr, o2_idx_str, o2_count, o2_join, eq_int, eq_str, eq_bl, eq_non_non, eq_non_bl, eq_non_int, eq_non_str, eq_non_tup, eq_non_lst, eq_bl_non, eq_bl_int, eq_bl_str, eq_bl_tup, eq_bl_lst, eq_int_non, eq_int_bl, eq_int_str, eq_int_tup, eq_int_lst, eq_str_non, eq_str_bl, eq_str_int, eq_str_tup, eq_str_lst, eq_tup_non, eq_tup_bl, eq_tup_int, eq_tup_str, eq_tup_tup, eq_tup_lst, eq_lst_non, eq_lst_bl, eq_lst_int, eq_lst_str, eq_lst_tup, eq_lst_lst, tr_non, tr_bl, tr_int, tr_str, tr_tup, tr_lst, ty_int_non, ty_int_bl, ty_int_int, ty_int_str, ty_int_tup, ty_int_lst, ty_bool_non, ty_bool_bl, ty_bool_int, ty_bool_str, ty_bool_tup, ty_bool_lst, ty_str_non, ty_str_bl, ty_str_int, ty_str_str, ty_str_tup, ty_str_lst, ty_tuple_non, ty_tuple_bl, ty_tuple_int, ty_tuple_str, ty_tuple_tup, ty_tuple_lst, ty_list_non, ty_list_bl, ty_list_int, ty_list_str, ty_list_tup, ty_list_lst, o1_neg, o1_not, o1_len_str, o1_len_tup, o1_len_lst, o1_len_scr, o1_tuple_lst, o1_tuple_tup, o1_list_lst, o1_list_tup, o1_all, o1_any, o1_sum, o1_int_int, o1_int_bl, o1_int_str, o1_str_int, o1_str_str, o1_repr_int, o1_repr_bl, o1_abs, o1_isi, o1_isB, o1_notB, o1_bits, o1_rev, o1_isN_non, o1_notN_non, o1_isN_bl, o1_notN_bl, o1_isN_int, o1_notN_int, o1_isN_str, o1_notN_str, o1_isN_tup, o1_notN_tup, o1_isN_lst, o1_notN_lst, o1_isN_ref, o1_notN_ref, o1_isN_scr, o1_notN_scr, sl_tup, sl_lst, sl_str, ao_int, ao_str, it_tup, it_lst, it_str, bg_nm, bg_tup, bg_lst, bg_nil, bg_cons, rc_add, rc_sub, rc_mul, rc_fdiv, rc_mod, rc_pow, rc_band, rc_bor, rc_bxor, rc_shl, rc_shr, rc_eq, rc_ne, rc_lt, rc_le, rc_gt, rc_ge, rc_in, rc_nin, rc_idx, rc_min, rc_max, rc_count, rc_join, wi_nil, wi_cons, sm_nil, sb_non, sb_bl, sb_int, sb_str, sb_tup, sb_lst, sb_ref, sb_own, no_nil, sm_cons, no_cons]
      rw [h.clip]
      by_cases c1 : N < lo
      · simp [wp_nil, wp_ok, wp_bad, wp_exc, wp_bind, wp_sb, wp_opt_some, wp_opt_none, wp_opt_ite, wp_opt_bind, wp_opt_map, wp_ite, wp_calm, ex, evE, evEs, evB, evAnd, evOr, evT, evAll, evAny, evI, enter, fin1_rt, fin1_nx, fin1_xc, nx1_nx, nx1_rt, nx1_bk, nx1_ct, nx1_xc, mulOk, rngOk, D.isOwn, rs_non, rs_bl, rs_int, rs_str, rs_tup, rs_lst, rs_scr, rs_ow, o2_add_int, o2_sub_int, o2_mul_int, o2_fdiv_int, o2_mod_int, o2_pow_int, o2_band_int, o2_bor_int, o2_bxor_int, o2_shl_int, o2_shr_int, o2_lt_int, o2_le_int, o2_gt_int, o2_ge_int, o2_min_int, o2_max_int, o2_add_str, o2_add_tup, o2_add_lst, o2_mul_lst, o2_eq, o2_ne, o2_in, o2_nin, o2_idx_tup, o2_idx_lst, o2_idx_scr, o2_idx_str, o2_count, o2_join, eq_int, eq_str, eq_bl, eq_non_non, eq_non_bl, eq_non_int, eq_non_str, eq_non_tup, eq_non_lst, eq_bl_non, eq_bl_int, eq_bl_str, eq_bl_tup, eq_bl_lst, eq_int_non, eq_int_bl, eq_int_str, eq_int_tup, eq_int_lst, eq_str_non, eq_str_bl, eq_str_int, eq_str_tup, eq_str_lst, eq_tup_non, eq_tup_bl, eq_tup_int, eq_tup_str, eq_tup_tup, eq_tup_lst, eq_lst_non, eq_lst_bl, eq_lst_int, eq_lst_str, eq_lst_tup, eq_lst_lst, tr_non, tr_bl, tr_int, tr_str, tr_tup, tr_lst, ty_int_non, ty_int_bl, ty_int_int, ty_int_str, ty_int_tup, ty_int_lst, ty_bool_non, ty_bool_bl, ty_bool_int, ty_bool_str, ty_bool_tup, ty_bool_lst, ty_str_non, ty_str_bl, ty_str_int, ty_str_str, ty_str_tup, ty_str_lst, ty_tuple_non, ty_tuple_bl, ty_tuple_int, ty_tuple_str, ty_tuple_tup, ty_tuple_lst, ty_list_non, ty_list_bl, ty_list_int, ty_list_str, ty_list_tup, ty_list_lst, o1_neg, o1_not, o1_len_str, o1_len_tup, o1_len_lst, o1_len_scr, o1_tuple_lst, o1_tuple_tup, o1_list_lst, o1_list_tup, o1_all, o1_any, o1_sum, o1_int_int, o1_int_bl, o1_int_str, o1_str_int, o1_str_str, o1_repr_int, o1_repr_bl, o1_abs, o1_isi, o1_isB, o1_notB, o1_bits, o1_rev, o1_isN_non, o1_notN_non, o1_isN_bl, o1_notN_bl, o1_isN_int, o1_notN_int, o1_isN_str, o1_notN_str, o1_isN_tup, o1_notN_tup, o1_isN_lst, o1_notN_lst, o1_isN_ref, o1_notN_ref, o1_isN_scr, o1_notN_scr, sl_tup, sl_lst, sl_str, ao_int, ao_str, it_tup, it_lst, it_str, bg_nm, bg_tup, bg_lst, bg_nil, bg_cons, rc_add, rc_sub, rc_mul, rc_fdiv, rc_mod, rc_pow, rc_band, rc_bor, rc_bxor, rc_shl, rc_shr, rc_eq, rc_ne, rc_lt, rc_le, rc_gt, rc_ge, rc_in, rc_nin, rc_idx, rc_min, rc_max, rc_count, rc_join, wi_nil, wi_cons, sm_nil, sb_non, sb_bl, sb_int, sb_str, sb_tup, sb_lst, sb_ref, sb_own, no_nil, sm_cons, no_cons, c1, clipI]
      · by_cases c2 : lo + j < N
        · simp [wp_nil, wp_ok, wp_bad, wp_exc, wp_bind, wp_sb, wp_opt_some, wp_opt_none, wp_opt_ite, wp_opt_bind, wp_opt_map, wp_ite, wp_calm, ex, evE, evEs, evB, evAnd, evOr, evT, evAll, evAny, evI, enter, fin1_rt, fin1_nx, fin1_xc, nx1_nx, nx1_rt, nx1_bk, nx1_ct, nx1_xc, mulOk, rngOk, D.isOwn, rs_non, rs_bl, rs_int, rs_str, rs_tup, rs_lst, rs_scr, rs_ow, o2_add_int, o2_sub_int, o2_mul_int, o2_fdiv_int, o2_mod_int, o2_pow_int, o2_band_int, o2_bor_int, o2_bxor_int, o2_shl_int, o2_shr_int, o2_lt_int, o2_le_int, o2_gt_int, o2_ge_int, o2_min_int, o2_max_int, o2_add_str, o2_add_tup, o2_add_lst, o2_mul_lst, o2_eq, o2_ne, o2_in, o2_nin, o2_idx_tup, o2_idx_lst, o2_idx_scr, o2_idx_str, o2_count, o2_join, eq_int, eq_str, eq_bl, eq_non_non, eq_non_bl, eq_non_int, eq_non_str, eq_non_tup, eq_non_lst, eq_bl_non, eq_bl_int, eq_bl_str, eq_bl_tup, eq_bl_lst, eq_int_non, eq_int_bl, eq_int_str, eq_int_tup, eq_int_lst, eq_str_non, eq_str_bl, eq_str_int, eq_str_tup, eq_str_lst, eq_tup_non, eq_tup_bl, eq_tup_int, eq_tup_str, eq_tup_tup, eq_tup_lst, eq_lst_non, eq_lst_bl, eq_lst_int, eq_lst_str, eq_lst_tup, eq_lst_lst, tr_non, tr_bl, tr_int, tr_str, tr_tup, tr_lst, ty_int_non, ty_int_bl, ty_int_int, ty_int_str, ty_int_tup, ty_int_lst, ty_bool_non, ty_bool_bl, ty_bool_int, ty_bool_str, ty_bool_tup, ty_bool_lst, ty_str_non, ty_str_bl, ty_str_int, ty_str_str, ty_str_tup, ty_str_lst, ty_tuple_non, ty_tuple_bl, ty_tuple_int, ty_tuple_str, ty_tuple_tup, ty_tuple_lst, ty_list_non, ty_list_bl, ty_list_int, ty_list_str, ty_list_tup, ty_list_lst, o1_neg, o1_not, o1_len_str, o1_len_tup, o1_len_lst, o1_len_scr, o1_tuple_lst, o1_tuple_tup, o1_list_lst, o1_list_tup, o1_all, o1_any, o1_sum, o1_int_int, o1_int_bl, o1_int_str, o1_str_int, o1_str_str, o1_repr_int, o1_repr_bl, o1_abs, o1_isi, o1_isB, o1_notB, o1_bits, o1_rev, o1_isN_non, o1_notN_non, o1_isN_bl, o1_notN_bl, o1_isN_int, o1_notN_int, o1_isN_str, o1_notN_str, o1_isN_tup, o1_notN_tup, o1_isN_lst, o1_notN_lst, o1_isN_ref, o1_notN_ref, o1_isN_scr, o1_notN_scr, sl_tup, sl_lst, sl_str, ao_int, ao_str, it_tup, it_lst, it_str, bg_nm, bg_tup, bg_lst, bg_nil, bg_cons, rc_add, rc_sub, rc_mul, rc_fdiv, rc_mod, rc_pow, rc_band, rc_bor, rc_bxor, rc_shl, rc_shr, rc_eq, rc_ne, rc_lt, rc_le, rc_gt, rc_ge, rc_in, rc_nin, rc_idx, rc_min, rc_max, rc_count, rc_join, wi_nil, wi_cons, sm_nil, sb_non, sb_bl, sb_int, sb_str, sb_tup, sb_lst, sb_ref, sb_own, no_nil, sm_cons, no_cons, c1, c2, clipI]
        · simp [wp_nil, wp_ok, wp_bad, wp_exc, wp_bind, wp_sb, wp_opt_some, wp_opt_none, wp_opt_ite, wp_opt_bind, wp_opt_map, wp_ite, wp_calm, ex, evE, evEs, evB, evAnd, evOr, evT, evAll, evAny, evI, enter, fin1_rt, fin1_nx, fin1_xc, nx1_nx, nx1_rt, nx1_bk, nx1_ct, nx1_xc, mulOk, rngOk, D.isOwn, rs_non, rs_bl, rs_int, rs_str, rs_tup, rs_lst, rs_scr, rs_ow, o2_add_int, o2_sub_int, o2_mul_int, o2_fdiv_int, o2_mod_int, o2_pow_int, o2_band_int, o2_bor_int, o2_bxor_int, o2_shl_int, o2_shr_int, o2_lt_int, o2_le_int, o2_gt_int, o2_ge_int, o2_min_int, o2_max_int, o2_add_str, o2_add_tup, o2_add_lst, o2_mul_lst, o2_eq, o2_ne, o2_in, o2_nin, o2_idx_tup, o2_idx_lst, o2_idx_scr, o2_idx_str, o2_count, o2_join, eq_int, eq_str, eq_bl, eq_non_non, eq_non_bl, eq_non_int, eq_non_str, eq_non_tup, eq_non_lst, eq_bl_non, eq_bl_int, eq_bl_str, eq_bl_tup, eq_bl_lst, eq_int_non, eq_int_bl, eq_int_str, eq_int_tup, eq_int_lst, eq_str_non, eq_str_bl, eq_str_int, eq_str_tup, eq_str_lst, eq_tup_non, eq_tup_bl, eq_tup_int, eq_tup_str, eq_tup_tup, eq_tup_lst, eq_lst_non, eq_lst_bl, eq_lst_int, eq_lst_str, eq_lst_tup, eq_lst_lst, tr_non, tr_bl, tr_int, tr_str, tr_tup, tr_lst, ty_int_non, ty_int_bl, ty_int_int, ty_int_str, ty_int_tup, ty_int_lst, ty_bool_non, ty_bool_bl, ty_bool_int, ty_bool_str, ty_bool_tup, ty_bool_lst, ty_str_non, ty_str_bl, ty_str_int, ty_str_str, ty_str_tup, ty_str_lst, ty_tuple_non, ty_tuple_bl, ty_tuple_int, ty_tuple_str, ty_tuple_tup, ty_tuple_lst, ty_list_non, ty_list_bl, ty_list_int, ty_list_str, ty_list_tup, ty_list_lst, o1_neg, o1_not, o1_len_str, o1_len_tup, o1_len_lst, o1_len_scr, o1_tuple_lst, o1_tuple_tup, o1_list_lst, o1_list_tup, o1_all, o1_any, o1_sum, o1_int_int, o1_int_bl, o1_int_str, o1_str_int, o1_str_str, o1_repr_int, o1_repr_bl, o1_abs, o1_isi, o1_isB, o1_notB, o1_bits, o1_rev, o1_isN_non, o1_notN_non, o1_isN_bl, o1_notN_bl, o1_isN_int, o1_notN_int, o1_isN_str, o1_notN_str, o1_isN_tup, o1_notN_tup, o1_isN_lst, o1_notN_lst, o1_isN_ref, o1_notN_ref, o1_isN_scr, o1_notN_scr, sl_tup, sl_lst, sl_str, ao_int, ao_str, it_tup, it_lst, it_str, bg_nm, bg_tup, bg_lst, bg_nil, bg_cons, rc_add, rc_sub, rc_mul, rc_fdiv, rc_mod, rc_pow, rc_band, rc_bor, rc_bxor, rc_shl, rc_shr, rc_eq, rc_ne, rc_lt, rc_le, rc_gt, rc_ge, rc_in, rc_nin, rc_idx, rc_min, rc_max, rc_count, rc_join, wi_nil, wi_cons, sm_nil, sb_non, sb_bl, sb_int, sb_str, sb_tup, sb_lst, sb_ref, sb_own, no_nil, sm_cons, no_cons, c1, c2, clipI]
    rw [nx1_nx, wp_seq]
    refine wp_test ?_ ?_
    · simp [wp_nil, wp_ok, wp_bad, wp_exc, wp_bind, wp_sb, wp_opt_some, wp_opt_none, wp_opt_ite, wp_opt_bind, wp_opt_map, wp_ite, wp_calm, ex, evE, evEs, evB, evAnd, evOr, evT, evAll, evAny, evI, enter, fin1_rt, fin1_nx, fin1_xc, nx1_nx, nx1_rt, nx1_bk, nx1_ct, nx1_xc, mulOk, rngOk, D.isOwn, rs_non, rs_bl, rs_int, rs_str, rs_tup, rs_lst, rs_scr, rs_ow, o2_add_int, o2_sub_int, o2_mul_int, o2_fdiv_int, o2_mod_int, o2_pow_int, o2_band_int, o2_bor_int, o2_bxor_int, o2_shl_int, o2_shr_int, o2_lt_int, o2_le_int, o2_gt_int, o2_ge_int, o2_min_int, o2_max_int, o2_add_str, o2_add_tup, o2_add_lst, o2_mul_lst, o2_eq, o2_ne, o2_in, o2_nin, o2_idx_tup, o2_idx_lst, o2_idx_scr, o2_idx_str, o2_count, o2_join, eq_int, eq_str, eq_bl, eq_non_non, eq_non_bl, eq_non_int, eq_non_str, eq_non_tup, eq_non_lst, eq_bl_non, eq_bl_int, eq_bl_str, eq_bl_tup, eq_bl_lst, eq_int_non, eq_int_bl, eq_int_str, eq_int_tup, eq_int_lst, eq_str_non, eq_str_bl, eq_str_int, eq_str_tup, eq_str_lst, eq_tup_non, eq_tup_bl, eq_tup_int, eq_tup_str, eq_tup_tup, eq_tup_lst, eq_lst_non, eq_lst_bl, eq_lst_int, eq_lst_str, eq_lst_tup, eq_lst_lst, tr_non, tr_bl, tr_int, tr_str, tr_tup, tr_lst, ty_int_non, ty_int_bl, ty_int_int, ty_int_str, ty_int_tup, ty_int_lst, ty_bool_non, ty_bool_bl, ty_bool_int, ty_bool_str, ty_bool_tup, ty_bool_lst, ty_str_non, ty_str_bl, ty_str_int, ty_str_str, ty_str_tup, ty_str_lst, ty_tuple_non, ty_tuple_bl, ty_tuple_int, ty_tuple_str, ty_tuple_tup, ty_tuple_lst, ty_list_non, ty_list_bl, ty_list_int, ty_list_str, ty_list_tup, ty_list_lst, o1_neg, o1_not, o1_len_str, o1_len_tup, o1_len_lst, o1_len_scr, o1_tuple_lst, o1_tuple_tup, o1_list_lst, o1_list_tup, o1_all, o1_any, o1_sum, o1_int_int, o1_int_bl, o1_int_str, o1_str_int, o1_str_str, o1_repr_int, o1_repr_bl, o1_abs, o1_isi, o1_isB, o1_notB, o1_bits, o1_rev, o1_isN_non, o1_notN_non, o1_isN_bl, o1_notN_bl, o1_isN_int, o1_notN_int, o1_isN_str, o1_notN_str, o1_isN_tup, o1_notN_tup, o1_isN_lst, o1_notN_lst, o1_isN_ref, o1_notN_ref, o1_isN_scr, o1_notN_scr, sl_tup, sl_lst, sl_str, ao_int, ao_str, it_tup, it_lst, it_str, bg_nm, bg_tup, bg_lst, bg_nil, bg_cons, rc_add, rc_sub, rc_mul, rc_fdiv, rc_mod, rc_pow, rc_band, rc_bor, rc_bxor, rc_shl, rc_shr, rc_eq, rc_ne, rc_lt, rc_le, rc_gt, rc_ge, rc_in, rc_nin, rc_idx, rc_min, rc_max, rc_count, rc_join, wi_nil, wi_cons, sm_nil, sb_non, sb_bl, sb_int, sb_str, sb_tup, sb_lst, sb_ref, sb_own, no_nil, sm_cons, no_cons]
      rw [h.isint _ rfl]
      by_cases c1 : lo ≤ N
      · by_cases c2 : N ≤ lo + j
        · simp [wp_nil, wp_ok, wp_bad, wp_exc, wp_bind, wp_sb, wp_opt_some, wp_opt_none, wp_opt_ite, wp_opt_bind, wp_opt_map, wp_ite, wp_calm, ex, evE, evEs, evB, evAnd, evOr, evT, evAll, evAny, evI, enter, fin1_rt, fin1_nx, fin1_xc, nx1_nx, nx1_rt, nx1_bk, nx1_ct, nx1_xc, mulOk, rngOk, D.isOwn, rs_non, rs_bl, rs_int, rs_str, rs_tup, rs_lst, rs_scr, rs_ow, o2_add_int, o2_sub_int, o2_mul_int, o2_fdiv_int, o2_mod_int, o2_pow_int, o2_band_int, o2_bor_int, o2_bxor_int, o2_shl_int, o2_shr_int, o2_lt_int, o2_le_int, o2_gt_int, o2_ge_int, o2_min_int, o2_max_int, o2_add_str, o2_add_tup, o2_add_lst, o2_mul_lst, o2_eq, o2_ne, o2_in, o2_nin, o2_idx_tup, o2_idx_lst, o2_idx_scr, o2_idx_str, o2_count, o2_join, eq_int, eq_str, eq_bl, eq_non_non, eq_non_bl, eq_non_int, eq_non_str, eq_non_tup, eq_non_lst, eq_bl_non, eq_bl_int, eq_bl_str, eq_bl_tup, eq_bl_lst, eq_int_non, eq_int_bl, eq_int_str, eq_int_tup, eq_int_lst, eq_str_non, eq_str_bl, eq_str_int, eq_str_tup, eq_str_lst, eq_tup_non, eq_tup_bl, eq_tup_int, eq_tup_str, eq_tup_tup, eq_tup_lst, eq_lst_non, eq_lst_bl, eq_lst_int, eq_lst_str, eq_lst_tup, eq_lst_lst, tr_non, tr_bl, tr_int, tr_str, tr_tup, tr_lst, ty_int_non, ty_int_bl, ty_int_int, ty_int_str, ty_int_tup, ty_int_lst, ty_bool_non, ty_bool_bl, ty_bool_int, ty_bool_str, ty_bool_tup, ty_bool_lst, ty_str_non, ty_str_bl, ty_str_int, ty_str_str, ty_str_tup, ty_str_lst, ty_tuple_non, ty_tuple_bl, ty_tuple_int, ty_tuple_str, ty_tuple_tup, ty_tuple_lst, ty_list_non, ty_list_bl, ty_list_int, ty_list_str, ty_list_tup, ty_list_lst, o1_neg, o1_not, o1_len_str, o1_len_tup, o1_len_lst, o1_len_scr, o1_tuple_lst, o1_tuple_tup, o1_list_lst, o1_list_tup, o1_all, o1_any, o1_sum, o1_int_int, o1_int_bl, o1_int_str, o1_str_int, o1_str_str, o1_repr_int, o1_repr_bl, o1_abs, o1_isi, o1_isB, o1_notB, o1_bits, o1_rev, o1_isN_non, o1_notN_non, o1_isN_bl, o1_notN_bl, o1_isN_int, o1_notN_int, o1_isN_str, o1_notN_str, o1_isN_tup, o1_notN_tup, o1_isN_lst, o1_notN_lst, o1_isN_ref, o1_notN_ref, o1_isN_scr, o1_notN_scr, sl_tup, sl_lst, sl_str, ao_int, ao_str, it_tup, it_lst, it_str, bg_nm, bg_tup, bg_lst, bg_nil, bg_cons, rc_add, rc_sub, rc_mul, rc_fdiv, rc_mod, rc_pow, rc_band, rc_bor, rc_bxor, rc_shl, rc_shr, rc_eq, rc_ne, rc_lt, rc_le, rc_gt, rc_ge, rc_in, rc_nin, rc_idx, rc_min, rc_max, rc_count, rc_join, wi_nil, wi_cons, sm_nil, sb_non, sb_bl, sb_int, sb_str, sb_tup, sb_lst, sb_ref, sb_own, no_nil, sm_cons, no_cons, c1, c2, isInt]
        · simp [wp_nil, wp_ok, wp_bad, wp_exc, wp_bind, wp_sb, wp_opt_some, wp_opt_none, wp_opt_ite, wp_opt_bind, wp_opt_map, wp_ite, wp_calm, ex, evE, evEs, evB, evAnd, evOr, evT, evAll, evAny, evI, enter, fin1_rt, fin1_nx, fin1_xc, nx1_nx, nx1_rt, nx1_bk, nx1_ct, nx1_xc, mulOk, rngOk, D.isOwn, rs_non, rs_bl, rs_int, rs_str, rs_tup, rs_lst, rs_scr, rs_ow, o2_add_int, o2_sub_int, o2_mul_int, o2_fdiv_int, o2_mod_int, o2_pow_int, o2_band_int, o2_bor_int, o2_bxor_int, o2_shl_int, o2_shr_int, o2_lt_int, o2_le_int, o2_gt_int, o2_ge_int, o2_min_int, o2_max_int, o2_add_str, o2_add_tup, o2_add_lst, o2_mul_lst, o2_eq, o2_ne, o2_in, o2_nin, o2_idx_tup, o2_idx_lst, o2_idx_scr, o2_idx_str, o2_count, o2_join, eq_int, eq_str, eq_bl, eq_non_non, eq_non_bl, eq_non_int, eq_non_str, eq_non_tup, eq_non_lst, eq_bl_non, eq_bl_int, eq_bl_str, eq_bl_tup, eq_bl_lst, eq_int_non, eq_int_bl, eq_int_str, eq_int_tup, eq_int_lst, eq_str_non, eq_str_bl, eq_str_int, eq_str_tup, eq_str_lst, eq_tup_non, eq_tup_bl, eq_tup_int, eq_tup_str, eq_tup_tup, eq_tup_lst, eq_lst_non, eq_lst_bl, eq_lst_int, eq_lst_str, eq_lst_tup, eq_lst_lst, tr_non, tr_bl, tr_int, tr_str, tr_tup, tr_lst, ty_int_non, ty_int_bl, ty_int_int, ty_int_str, ty_int_tup, ty_int_lst, ty_bool_non, ty_bool_bl, ty_bool_int, ty_bool_str, ty_bool_tup, ty_bool_lst, ty_str_non, ty_str_bl, ty_str_int, ty_str_str, ty_str_tup, ty_str_lst, ty_tuple_non, ty_tuple_bl, ty_tuple_int, ty_tuple_str, ty_tuple_tup, ty_tuple_lst, ty_list_non, ty_list_bl, ty_list_int, ty_list_str, ty_list_tup, ty_list_lst, o1_neg, o1_not, o1_len_str, o1_len_tup, o1_len_lst, o1_len_scr, o1_tuple_lst, o1_tuple_tup, o1_list_lst, o1_list_tup, o1_all, o1_any, o1_sum, o1_int_int, o1_int_bl, o1_int_str, o1_str_int, o1_str_str, o1_repr_int, o1_repr_bl, o1_abs, o1_isi, o1_isB, o1_notB, o1_bits, o1_rev, o1_isN_non, o1_notN_non, o1_isN_bl, o1_notN_bl, o1_isN_int, o1_notN_int, o1_isN_str, o1_notN_str, o1_isN_tup, o1_notN_tup, o1_isN_lst, o1_notN_lst, o1_isN_ref, o1_notN_ref, o1_isN_scr, o1_notN_scr, sl_tup, sl_lst, sl_str, ao_int, ao_str, it_tup, it_lst, it_str, bg_nm, bg_tup, bg_lst, bg_nil, bg_cons, rc_add, rc_sub, rc_mul, rc_fdiv, rc_mod, rc_pow, rc_band, rc_bor, rc_bxor, rc_shl, rc_shr, rc_eq, rc_ne, rc_lt, rc_le, rc_gt, rc_ge, rc_in, rc_nin, rc_idx, rc_min, rc_max, rc_count, rc_join, wi_nil, wi_cons, sm_nil, sb_non, sb_bl, sb_int, sb_str, sb_tup, sb_lst, sb_ref, sb_own, no_nil, sm_cons, no_cons, c1, c2, isInt]
      · simp [wp_nil, wp_ok, wp_bad, wp_exc, wp_bind, wp_sb, wp_opt_some, wp_opt_none, wp_opt_ite, wp_opt_bind, wp_opt_map, wp_ite, wp_calm, ex, evE, evEs, evB, evAnd, evOr, evT, evAll, evAny, evI, enter, fin1_rt, fin1_nx, fin1_xc, nx1_nx, nx1_rt, nx1_bk, nx1_ct, nx1_xc, mulOk, rngOk, D.isOwn, rs_non, rs_bl, rs_int, rs_str, rs_tup, rs_lst, rs_scr, rs_ow, o2_add_int, o2_sub_int, o2_mul_int, o2_fdiv_int, o2_mod_int, o2_pow_int, o2_band_int, o2_bor_int, o2_bxor_int, o2_shl_int, o2_shr_int, o2_lt_int, o2_le_int, o2_gt_int, o2_ge_int, o2_min_int, o2_max_int, o2_add_str, o2_add_tup, o2_add_lst, o2_mul_lst, o2_eq, o2_ne, o2_in, o2_nin, o2_idx_tup, o2_idx_lst, o2_idx_scr, o2_idx_str, o2_count, o2_join, eq_int, eq_str, eq_bl, eq_non_non, eq_non_bl, eq_non_int, eq_non_str, eq_non_tup, eq_non_lst, eq_bl_non, eq_bl_int, eq_bl_str, eq_bl_tup, eq_bl_lst, eq_int_non, eq_int_bl, eq_int_str, eq_int_tup, eq_int_lst, eq_str_non, eq_str_bl, eq_str_int, eq_str_tup, eq_str_lst, eq_tup_non, eq_tup_bl, eq_tup_int, eq_tup_str, eq_tup_tup, eq_tup_lst, eq_lst_non, eq_lst_bl, eq_lst_int, eq_lst_str, eq_lst_tup, eq_lst_lst, tr_non, tr_bl, tr_int, tr_str, tr_tup, tr_lst, ty_int_non, ty_int_bl, ty_int_int, ty_int_str, ty_int_tup, ty_int_lst, ty_bool_non, ty_bool_bl, ty_bool_int, ty_bool_str, ty_bool_tup, ty_bool_lst, ty_str_non, ty_str_bl, ty_str_int, ty_str_str, ty_str_tup, ty_str_lst, ty_tuple_non, ty_tuple_bl, ty_tuple_int, ty_tuple_str, ty_tuple_tup, ty_tuple_lst, ty_list_non, ty_list_bl, ty_list_int, ty_list_str, ty_list_tup, ty_list_lst, o1_neg, o1_not, o1_len_str, o1_len_tup, o1_len_lst, o1_len_scr, o1_tuple_lst, o1_tuple_tup, o1_list_lst, o1_list_tup, o1_all, o1_any, o1_sum, o1_int_int, o1_int_bl, o1_int_str, o1_str_int, o1_str_str, o1_repr_int, o1_repr_bl, o1_abs, o1_isi, o1_isB, o1_notB, o1_bits, o1_rev, o1_isN_non, o1_notN_non, o1_isN_bl, o1_notN_bl, o1_isN_int, o1_notN_int, o1_isN_str, o1_notN_str, o1_isN_tup, o1_notN_tup, o1_isN_lst, o1_notN_lst, o1_isN_ref, o1_notN_ref, o1_isN_scr, o1_notN_scr, sl_tup, sl_lst, sl_str, ao_int, ao_str, it_tup, it_lst, it_str, bg_nm, bg_tup, bg_lst, bg_nil, bg_cons, rc_add, rc_sub, rc_mul, rc_fdiv, rc_mod, rc_pow, rc_band, rc_bor, rc_bxor, rc_shl, rc_shr, rc_eq, rc_ne, rc_lt, rc_le, rc_gt, rc_ge, rc_in, rc_nin, rc_idx, rc_min, rc_max, rc_count, rc_join, wi_nil, wi_cons, sm_nil, sb_non, sb_bl, sb_int, sb_str, sb_tup, sb_lst, sb_ref, sb_own, no_nil, sm_cons, no_cons, c1, isInt]
    rw [nx1_nx, wp_seq]
    refine wp_test ?_ ?_
    · simp [wp_nil, wp_ok, wp_bad, wp_exc, wp_bind, wp_sb, wp_opt_some, wp_opt_none, wp_opt_ite, wp_opt_bind, wp_opt_map, wp_ite, wp_calm, ex, evE, evEs, evB, evAnd, evOr, evT, evAll, evAny, evI, enter, fin1_rt, fin1_nx, fin1_xc, nx1_nx, nx1_rt, nx1_bk, nx1_ct, nx1_xc, mulOk, rngOk, D.isOwn, rs_non, rs_bl, rs_int, rs_str, rs_tup, rs_lst, rs_scr, rs_ow, o2_add_int, o2_sub_int, o2_mul_int, o2_fdiv_int, o2_mod_int, o2_pow_int, o2_band_int, o2_bor_int, o2_bxor_int, o2_shl_int, o2_shr_int, o2_lt_int, o2_le_int, o2_gt_int, o2_ge_int, o2_min_int, o2_max_int, o2_add_str, o2_add_tup, o2_add_lst, o2_mul_lst, o2_eq, o2_ne, o2_in, o2_nin, o2_idx_tup, o2_idx_lst, o2_idx_scr, o2_idx_str, o2_count, o2_join, eq_int, eq_str, eq_bl, eq_non_non, eq_non_bl, eq_non_int, eq_non_str, eq_non_tup, eq_non_lst, eq_bl_non, eq_bl_int, eq_bl_str, eq_bl_tup, eq_bl_lst, eq_int_non, eq_int_bl, eq_int_str, eq_int_tup, eq_int_lst, eq_str_non, eq_str_bl, eq_str_int, eq_str_tup, eq_str_lst, eq_tup_non, eq_tup_bl, eq_tup_int, eq_tup_str, eq_tup_tup, eq_tup_lst, eq_lst_non, eq_lst_bl, eq_lst_int, eq_lst_str, eq_lst_tup, eq_lst_lst, tr_non, tr_bl, tr_int, tr_str, tr_tup, tr_lst, ty_int_non, ty_int_bl, ty_int_int, ty_int_str, ty_int_tup, ty_int_lst, ty_bool_non, ty_bool_bl, ty_bool_int, ty_bool_str, ty_bool_tup, ty_bool_lst, ty_str_non, ty_str_bl, ty_str_int, ty_str_str, ty_str_tup, ty_str_lst, ty_tuple_non, ty_tuple_bl, ty_tuple_int, ty_tuple_str, ty_tuple_tup, ty_tuple_lst, ty_list_non, ty_list_bl, ty_list_int, ty_list_str, ty_list_tup, ty_list_lst, o1_neg, o1_not, o1_len_str, o1_len_tup, o1_len_lst, o1_len_scr, o1_tuple_lst, o1_tuple_tup, o1_list_lst, o1_list_tup, o1_all, o1_any, o1_sum, o1_int_int, o1_int_bl, o1_int_str, o1_str_int, o1_str_str, o1_repr_int, o1_repr_bl, o1_abs, o1_isi, o1_isB, o1_notB, o1_bits, o1_rev, o1_isN_non, o1_notN_non, o1_isN_bl, o1_notN_bl, o1_isN_int, o1_notN_int, o1_isN_str, o1_notN_str, o1_isN_tup, o1_notN_tup, o1_isN_lst, o1_notN_lst, o1_isN_ref, o1_notN_ref, o1_isN_scr, o1_notN_scr, sl_tup, sl_lst, sl_str, ao_int, ao_str, it_tup, it_lst, it_str, bg_nm, bg_tup, bg_lst, bg_nil, bg_cons, rc_add, rc_sub, rc_mul, rc_fdiv, rc_mod, rc_pow, rc_band, rc_bor, rc_bxor, rc_shl, rc_shr, rc_eq, rc_ne, rc_lt, rc_le, rc_gt, rc_ge, rc_in, rc_nin, rc_idx, rc_min, rc_max, rc_count, rc_join, wi_nil, wi_cons, sm_nil, sb_non, sb_bl, sb_int, sb_str, sb_tup, sb_lst, sb_ref, sb_own, no_nil, sm_cons, no_cons]
      rw [h.isnum _ rfl]
      by_cases c1 : -2147483648 ≤ N
      · by_cases c2 : N ≤ 2147483647
        · simp [wp_nil, wp_ok, wp_bad, wp_exc, wp_bind, wp_sb, wp_opt_some, wp_opt_none, wp_opt_ite, wp_opt_bind, wp_opt_map, wp_ite, wp_calm, ex, evE, evEs, evB, evAnd, evOr, evT, evAll, evAny, evI, enter, fin1_rt, fin1_nx, fin1_xc, nx1_nx, nx1_rt, nx1_bk, nx1_ct, nx1_xc, mulOk, rngOk, D.isOwn, rs_non, rs_bl, rs_int, rs_str, rs_tup, rs_lst, rs_scr, rs_ow, o2_add_int, o2_sub_int, o2_mul_int, o2_fdiv_int, o2_mod_int, o2_pow_int, o2_band_int, o2_bor_int, o2_bxor_int, o2_shl_int, o2_shr_int, o2_lt_int, o2_le_int, o2_gt_int, o2_ge_int, o2_min_int, o2_max_int, o2_add_str, o2_add_tup, o2_add_lst, o2_mul_lst, o2_eq, o2_ne, o2_in, o2_nin, o2_idx_tup, o2_idx_lst, o2_idx_scr, o2_idx_str, o2_count, o2_join, eq_int, eq_str, eq_bl, eq_non_non, eq_non_bl, eq_non_int, eq_non_str, eq_non_tup, eq_non_lst, eq_bl_non, eq_bl_int, eq_bl_str, eq_bl_tup, eq_bl_lst, eq_int_non, eq_int_bl, eq_int_str, eq_int_tup, eq_int_lst, eq_str_non, eq_str_bl, eq_str_int, eq_str_tup, eq_str_lst, eq_tup_non, eq_tup_bl, eq_tup_int, eq_tup_str, eq_tup_tup, eq_tup_lst, eq_lst_non, eq_lst_bl, eq_lst_int, eq_lst_str, eq_lst_tup, eq_lst_lst, tr_non, tr_bl, tr_int, tr_str, tr_tup, tr_lst, ty_int_non, ty_int_bl, ty_int_int, ty_int_str, ty_int_tup, ty_int_lst, ty_bool_non, ty_bool_bl, ty_bool_int, ty_bool_str, ty_bool_tup, ty_bool_lst, ty_str_non, ty_str_bl, ty_str_int, ty_str_str, ty_str_tup, ty_str_lst, ty_tuple_non, ty_tuple_bl, ty_tuple_int, ty_tuple_str, ty_tuple_tup, ty_tuple_lst, ty_list_non, ty_list_bl, ty_list_int, ty_list_str, ty_list_tup, ty_list_lst, o1_neg, o1_not, o1_len_str, o1_len_tup, o1_len_lst, o1_len_scr, o1_tuple_lst, o1_tuple_tup, o1_list_lst, o1_list_tup, o1_all, o1_any, o1_sum, o1_int_int, o1_int_bl, o1_int_str, o1_str_int, o1_str_str, o1_repr_int, o1_repr_bl, o1_abs, o1_isi, o1_isB, o1_notB, o1_bits, o1_rev, o1_isN_non, o1_notN_non, o1_isN_bl, o1_notN_bl, o1_isN_int, o1_notN_int, o1_isN_str, o1_notN_str, o1_isN_tup, o1_notN_tup, o1_isN_lst, o1_notN_lst, o1_isN_ref, o1_notN_ref, o1_isN_scr, o1_notN_scr, sl_tup, sl_lst, sl_str, ao_int, ao_str, it_tup, it_lst, it_str, bg_nm, bg_tup, bg_lst, bg_nil, bg_cons, rc_add, rc_sub, rc_mul, rc_fdiv, rc_mod, rc_pow, rc_band, rc_bor, rc_bxor, rc_shl, rc_shr, rc_eq, rc_ne, rc_lt, rc_le, rc_gt, rc_ge, rc_in, rc_nin, rc_idx, rc_min, rc_max, rc_count, rc_join, wi_nil, wi_cons, sm_nil, sb_non, sb_bl, sb_int, sb_str, sb_tup, sb_lst, sb_ref, sb_own, no_nil, sm_cons, no_cons, c1, c2, isInt]
        · simp [wp_nil, wp_ok, wp_bad, wp_exc, wp_bind, wp_sb, wp_opt_some, wp_opt_none, wp_opt_ite, wp_opt_bind, wp_opt_map, wp_ite, wp_calm, ex, evE, evEs, evB, evAnd, evOr, evT, evAll, evAny, evI, enter, fin1_rt, fin1_nx, fin1_xc, nx1_nx, nx1_rt, nx1_bk, nx1_ct, nx1_xc, mulOk, rngOk, D.isOwn, rs_non, rs_bl, rs_int, rs_str, rs_tup, rs_lst, rs_scr, rs_ow, o2_add_int, o2_sub_int, o2_mul_int, o2_fdiv_int, o2_mod_int, o2_pow_int, o2_band_int, o2_bor_int, o2_bxor_int, o2_shl_int, o2_shr_int, o2_lt_int, o2_le_int, o2_gt_int, o2_ge_int, o2_min_int, o2_max_int, o2_add_str, o2_add_tup, o2_add_lst, o2_mul_lst, o2_eq, o2_ne, o2_in, o2_nin, o2_idx_tup, o2_idx_lst, o2_idx_scr, o2_idx_str, o2_count, o2_join, eq_int, eq_str, eq_bl, eq_non_non, eq_non_bl, eq_non_int, eq_non_str, eq_non_tup, eq_non_lst, eq_bl_non, eq_bl_int, eq_bl_str, eq_bl_tup, eq_bl_lst, eq_int_non, eq_int_bl, eq_int_str, eq_int_tup, eq_int_lst, eq_str_non, eq_str_bl, eq_str_int, eq_str_tup, eq_str_lst, eq_tup_non, eq_tup_bl, eq_tup_int, eq_tup_str, eq_tup_tup, eq_tup_lst, eq_lst_non, eq_lst_bl, eq_lst_int, eq_lst_str, eq_lst_tup, eq_lst_lst, tr_non, tr_bl, tr_int, tr_str, tr_tup, tr_lst, ty_int_non, ty_int_bl, ty_int_int, ty_int_str, ty_int_tup, ty_int_lst, ty_bool_non, ty_bool_bl, ty_bool_int, ty_bool_str, ty_bool_tup, ty_bool_lst, ty_str_non, ty_str_bl, ty_str_int, ty_str_str, ty_str_tup, ty_str_lst, ty_tuple_non, ty_tuple_bl, ty_tuple_int, ty_tuple_str, ty_tuple_tup, ty_tuple_lst, ty_list_non, ty_list_bl, ty_list_int, ty_list_str, ty_list_tup, ty_list_lst, o1_neg, o1_not, o1_len_str, o1_len_tup, o1_len_lst, o1_len_scr, o1_tuple_lst, o1_tuple_tup, o1_list_lst, o1_list_tup, o1_all, o1_any, o1_sum, o1_int_int, o1_int_bl, o1_int_str, o1_str_int, o1_str_str, o1_repr_int, o1_repr_bl, o1_abs, o1_isi, o1_isB, o1_notB, o1_bits, o1_rev, o1_isN_non, o1_notN_non, o1_isN_bl, o1_notN_bl, o1_isN_int, o1_notN_int, o1_isN_str, o1_notN_str, o1_isN_tup, o1_notN_tup, o1_isN_lst, o1_notN_lst, o1_isN_ref, o1_notN_ref, o1_isN_scr, o1_notN_scr, sl_tup, sl_lst, sl_str, ao_int, ao_str, it_tup, it_lst, it_str, bg_nm, bg_tup, bg_lst, bg_nil, bg_cons, rc_add, rc_sub, rc_mul, rc_fdiv, rc_mod, rc_pow, rc_band, rc_bor, rc_bxor, rc_shl, rc_shr, rc_eq, rc_ne, rc_lt, rc_le, rc_gt, rc_ge, rc_in, rc_nin, rc_idx, rc_min, rc_max, rc_count, rc_join, wi_nil, wi_cons, sm_nil, sb_non, sb_bl, sb_int, sb_str, sb_tup, sb_lst, sb_ref, sb_own, no_nil, sm_cons, no_cons, c1, c2, isInt]
      · simp [wp_nil, wp_ok, wp_bad, wp_exc, wp_bind, wp_sb, wp_opt_some, wp_opt_none, wp_opt_ite, wp_opt_bind, wp_opt_map, wp_ite, wp_calm, ex, evE, evEs, evB, evAnd, evOr, evT, evAll, evAny, evI, enter, fin1_rt, fin1_nx, fin1_xc, nx1_nx, nx1_rt, nx1_bk, nx1_ct, nx1_xc, mulOk, rngOk, D.isOwn, rs_non, rs_bl, rs_int, rs_str, rs_tup, rs_lst, rs_scr, rs_ow, o2_add_int, o2_sub_int, o2_mul_int, o2_fdiv_int, o2_mod_int, o2_pow_int, o2_band_int, o2_bor_int, o2_bxor_int, o2_shl_int, o2_shr_int, o2_lt_int, o2_le_int, o2_gt_int, o2_ge_int, o2_min_int, o2_max_int, o2_add_str, o2_add_tup, o2_add_lst, o2_mul_lst, o2_eq, o2_ne, o2_in, o2_nin, o2_idx_tup, o2_idx_lst, o2_idx_scr, o2_idx_str, o2_count, o2_join, eq_int, eq_str, eq_bl, eq_non_non, eq_non_bl, eq_non_int, eq_non_str, eq_non_tup, eq_non_lst, eq_bl_non, eq_bl_int, eq_bl_str, eq_bl_tup, eq_bl_lst, eq_int_non, eq_int_bl, eq_int_str, eq_int_tup, eq_int_lst, eq_str_non, eq_str_bl, eq_str_int, eq_str_tup, eq_str_lst, eq_tup_non, eq_tup_bl, eq_tup_int, eq_tup_str, eq_tup_tup, eq_tup_lst, eq_lst_non, eq_lst_bl, eq_lst_int, eq_lst_str, eq_lst_tup, eq_lst_lst, tr_non, tr_bl, tr_int, tr_str, tr_tup, tr_lst, ty_int_non, ty_int_bl, ty_int_int, ty_int_str, ty_int_tup, ty_int_lst, ty_bool_non, ty_bool_bl, ty_bool_int, ty_bool_str, ty_bool_tup, ty_bool_lst, ty_str_non, ty_str_bl, ty_str_int, ty_str_str, ty_str_tup, ty_str_lst, ty_tuple_non, ty_tuple_bl, ty_tuple_int, ty_tuple_str, ty_tuple_tup, ty_tuple_lst, ty_list_non, ty_list_bl, ty_list_int, ty_list_str, ty_list_tup, ty_list_lst, o1_neg, o1_not, o1_len_str, o1_len_tup, o1_len_lst, o1_len_scr, o1_tuple_lst, o1_tuple_tup, o1_list_lst, o1_list_tup, o1_all, o1_any, o1_sum, o1_int_int, o1_int_bl, o1_int_str, o1_str_int, o1_str_str, o1_repr_int, o1_repr_bl, o1_abs, o1_isi, o1_isB, o1_notB, o1_bits, o1_rev, o1_isN_non, o1_notN_non, o1_isN_bl, o1_notN_bl, o1_isN_int, o1_notN_int, o1_isN_str, o1_notN_str, o1_isN_tup, o1_notN_tup, o1_isN_lst, o1_notN_lst, o1_isN_ref, o1_notN_ref, o1_isN_scr, o1_notN_scr, sl_tup, sl_lst, sl_str, ao_int, ao_str, it_tup, it_lst, it_str, bg_nm, bg_tup, bg_lst, bg_nil, bg_cons, rc_add, rc_sub, rc_mul, rc_fdiv, rc_mod, rc_pow, rc_band, rc_bor, rc_bxor, rc_shl, rc_shr, rc_eq, rc_ne, rc_lt, rc_le, rc_gt, rc_ge, rc_in, rc_nin, rc_idx, rc_min, rc_max, rc_count, rc_join, wi_nil, wi_cons, sm_nil, sb_non, sb_bl, sb_int, sb_str, sb_tup, sb_lst, sb_ref, sb_own, no_nil, sm_cons, no_cons, c1, isInt]
    rw [nx1_nx, wp_seq]
    refine wp_st (fun f M' => f = .nx [.val (.scr ns), .val (.int K), .val (.ref r), .val (.int N), .val (.int ((N + 2147483648) % 4294967296 + -2147483648)), .val (.int lo), .val (.int (lo + j)), .val (.lst [.int 1]), a8, a9, a10, a11, a12] ∧ M' = M) ?_ ?_
    · simp [wp_seq, exs, wp_nil, wp_ok, wp_bad, wp_exc, wp_bind, wp_sb, wp_opt_some, wp_opt_none, wp_opt_ite, wp_opt_bind, wp_opt_map, wp_ite, wp_calm, ex, evE, evEs, evB, evAnd, evOr, evT, evAll, evAny, evI, enter, fin1_rt, fin1_nx, fin1_xc, nx1_nx, nx1_rt, nx1_bk, nx1_ct, nx1_xc, mulOk, rngOk, D.isOwn, rs_non, rs_bl, rs_int, rs_str, rs_tup, rs_lst, rs_scr, rs_ow, o2_add_int, o2_sub_int, o2_mul_int, o2_fdiv_int, o2_mod_int, o2_pow_int, o2_band_int, o2_bor_int, o2_bxor_int, o2_shl_int, o2_shr_int, o2_lt_int, o2_le_int, o2_gt_int, o2_ge_int, o2_min_int, o2_max_int, o2_add_str, o2_add_tup, o2_add_lst, o2_mul_lst, o2_eq, o2_ne, o2_in, o2_nin, o2_idx_tup, o2_idx_lst, o2_idx_scr, o2_idx_str, o2_count, o2_join, eq_int, eq_str, eq_bl, eq_non_non, eq_non_bl, eq_non_int, eq_non_str, eq_non_tup, eq_non_lst, eq_bl_non, eq_bl_int, eq_bl_str, eq_bl_tup, eq_bl_lst, eq_int_non, eq_int_bl, eq_int_str, eq_int_tup, eq_int_lst, eq_str_non, eq_str_bl, eq_str_int, eq_str_tup, eq_str_lst, eq_tup_non, eq_tup_bl, eq_tup_int, eq_tup_str, eq_tup_tup, eq_tup_lst, eq_lst_non, eq_lst_bl, eq_lst_int, eq_lst_str, eq_lst_tup, eq_lst_lst, tr_non, tr_bl, tr_int, tr_str, tr_tup, tr_lst, ty_int_non, ty_int_bl, ty_int_int, ty_int_str, ty_int_tup, ty_int_lst, ty_bool_non, ty_bool_bl, ty_bool_int, ty_bool_str, ty_bool_tup, ty_bool_lst, ty_str_non, ty_str_bl, ty_str_int, ty_str_str, ty_str_tup, ty_str_lst, ty_tuple_non, ty_tuple_bl, ty_tuple_int, ty_tuple_str, ty_tuple_tup, ty_tuple_lst, ty_list_non, ty_list_bl, ty_list_int, ty_list_str, ty_list_tup, ty_list_lst, o1_neg, o1_not, o1_len_str, o1_len_tup, o1_len_lst, o1_len_scr, o1_tuple_lst, o1_tuple_tup, o1_list_lst, o1_list_tup, o1_all, o1_any, o1_sum, o1_int_int, o1_int_bl, o1_int_str, o1_str_int, o1_str_str, o1_repr_int, o1_repr_bl, o1_abs, o1_isi, o1_isB, o1_notB, o1_bits, o1_rev, o1_isN_non, o1_notN_non, o1_isN_bl, o1_notN_bl, o1_isN_int, o1_notN_int, o1_isN_str, o1_notN_str, o1_isN_tup, o1_notN_tup, o1_isN_lst, o1_notN_lst, o1_isN_ref, o1_notN_ref, o1_isN_scr, o1_notN_scr, sl_tup, sl_lst, sl_str, ao_int, ao_str, it_tup, it_lst, it_str, bg_nm, bg_tup, bg_lst, bg_nil, bg_cons, rc_add, rc_sub, rc_mul, rc_fdiv, rc_mod, rc_pow, rc_band, rc_bor, rc_bxor, rc_shl, rc_shr, rc_eq, rc_ne, rc_lt, rc_le, rc_gt, rc_ge, rc_in, rc_nin, rc_idx, rc_min, rc_max, rc_count, rc_join, wi_nil, wi_cons, sm_nil, sb_non, sb_bl, sb_int, sb_str, sb_tup, sb_lst, sb_ref, sb_own, no_nil, sm_cons, no_cons, sizeLine_eq, loopF, i_b, j_b, i_n, j_n, i_s, j_s, i_t, j_t, i_l, j_l]
    rintro f M' ⟨rfl, rfl⟩
    rw [nx1_nx, wp_seq]
    simp [wp_nil, wp_ok, wp_bad, wp_exc, wp_bind, wp_sb, wp_opt_some, wp_opt_none, wp_opt_ite, wp_opt_bind, wp_opt_map, wp_ite, wp_calm, ex, evE, evEs, evB, evAnd, evOr, evT, evAll, evAny, evI, enter, fin1_rt, fin1_nx, fin1_xc, nx1_nx, nx1_rt, nx1_bk, nx1_ct, nx1_xc, mulOk, rngOk, D.isOwn, rs_non, rs_bl, rs_int, rs_str, rs_tup, rs_lst, rs_scr, rs_ow, o2_add_int, o2_sub_int, o2_mul_int, o2_fdiv_int, o2_mod_int, o2_pow_int, o2_band_int, o2_bor_int, o2_bxor_int, o2_shl_int, o2_shr_int, o2_lt_int, o2_le_int, o2_gt_int, o2_ge_int, o2_min_int, o2_max_int, o2_add_str, o2_add_tup, o2_add_lst, o2_mul_lst, o2_eq, o2_ne, o2_in, o2_nin, o2_idx_tup, o2_idx_lst, o2_idx_scr, o2_idx_str, o2_count, o2_join, eq_int, eq_str, eq_bl, eq_non_non, eq_non_bl, eq_non_int, eq_non_str, eq_non_tup, eq_non_lst, eq_bl_non, eq_bl_int, eq_bl_str, eq_bl_tup, eq_bl_lst, eq_int_non, eq_int_bl, eq_int_str, eq_int_tup, eq_int_lst, eq_str_non, eq_str_bl, eq_str_int, eq_str_tup, eq_str_lst, eq_tup_non, eq_tup_bl, eq_tup_int, eq_tup_str, eq_tup_tup, eq_tup_lst, eq_lst_non, eq_lst_bl, eq_lst_int, eq_lst_str, eq_lst_tup, eq_lst_lst, tr_non, tr_bl, tr_int, tr_str, tr_tup, tr_lst, ty_int_non, ty_int_bl, ty_int_int, ty_int_str, ty_int_tup, ty_int_lst, ty_bool_non, ty_bool_bl, ty_bool_int, ty_bool_str, ty_bool_tup, ty_bool_lst, ty_str_non, ty_str_bl, ty_str_int, ty_str_str, ty_str_tup, ty_str_lst, ty_tuple_non, ty_tuple_bl, ty_tuple_int, ty_tuple_str, ty_tuple_tup, ty_tuple_lst, ty_list_non, ty_list_bl, ty_list_int, ty_list_str, ty_list_tup, ty_list_lst, o1_neg, o1_not, o1_len_str, o1_len_tup, o1_len_lst, o1_len_scr, o1_tuple_lst, o1_tuple_tup, o1_list_lst, o1_list_tup, o1_all, o1_any, o1_sum, o1_int_int, o1_int_bl, o1_int_str, o1_str_int, o1_str_str, o1_repr_int, o1_repr_bl, o1_abs, o1_isi, o1_isB, o1_notB, o1_bits, o1_rev, o1_isN_non, o1_notN_non, o1_isN_bl, o1_notN_bl, o1_isN_int, o1_notN_int, o1_isN_str, o1_notN_str, o1_isN_tup, o1_notN_tup, o1_isN_lst, o1_notN_lst, o1_isN_ref, o1_notN_ref, o1_isN_scr, o1_notN_scr, sl_tup, sl_lst, sl_str, ao_int, ao_str, it_tup, it_lst, it_str, bg_nm, bg_tup, bg_lst, bg_nil, bg_cons, rc_add, rc_sub, rc_mul, rc_fdiv, rc_mod, rc_pow, rc_band, rc_bor, rc_bxor, rc_shl, rc_shr, rc_eq, rc_ne, rc_lt, rc_le, rc_gt, rc_ge, rc_in, rc_nin, rc_idx, rc_min, rc_max, rc_count, rc_join, wi_nil, wi_cons, sm_nil, sb_non, sb_bl, sb_int, sb_str, sb_tup, sb_lst, sb_ref, sb_own, no_nil, sm_cons, no_cons, sizeLine_eq]
    refine h.draw hb (by decide) (by decide +kernel) fun J M h1 h2 hb => ?_
    have hJ : -4611686018427387904 ≤ J ∧ J < 4611686018427387904 := by omega
    simp [wp_nil, wp_ok, wp_bad, wp_exc, wp_bind, wp_sb, wp_opt_some, wp_opt_none, wp_opt_ite, wp_opt_bind, wp_opt_map, wp_ite, wp_calm, ex, evE, evEs, evB, evAnd, evOr, evT, evAll, evAny, evI, enter, fin1_rt, fin1_nx, fin1_xc, nx1_nx, nx1_rt, nx1_bk, nx1_ct, nx1_xc, mulOk, rngOk, D.isOwn, rs_non, rs_bl, rs_int, rs_str, rs_tup, rs_lst, rs_scr, rs_ow, o2_add_int, o2_sub_int, o2_mul_int, o2_fdiv_int, o2_mod_int, o2_pow_int, o2_band_int, o2_bor_int, o2_bxor_int, o2_shl_int, o2_shr_int, o2_lt_int, o2_le_int, o2_gt_int, o2_ge_int, o2_min_int, o2_max_int, o2_add_str, o2_add_tup, o2_add_lst, o2_mul_lst, o2_eq, o2_ne, o2_in, o2_nin, o2_idx_tup, o2_idx_lst, o2_idx_scr, o2_idx_str, o2_count, o2_join, eq_int, eq_str, eq_bl, eq_non_non, eq_non_bl, eq_non_int, eq_non_str, eq_non_tup, eq_non_lst, eq_bl_non, eq_bl_int, eq_bl_str, eq_bl_tup, eq_bl_lst, eq_int_non, eq_int_bl, eq_int_str, eq_int_tup, eq_int_lst, eq_str_non, eq_str_bl, eq_str_int, eq_str_tup, eq_str_lst, eq_tup_non, eq_tup_bl, eq_tup_int, eq_tup_str, eq_tup_tup, eq_tup_lst, eq_lst_non, eq_lst_bl, eq_lst_int, eq_lst_str, eq_lst_tup, eq_lst_lst, tr_non, tr_bl, tr_int, tr_str, tr_tup, tr_lst, ty_int_non, ty_int_bl, ty_int_int, ty_int_str, ty_int_tup, ty_int_lst, ty_bool_non, ty_bool_bl, ty_bool_int, ty_bool_str, ty_bool_tup, ty_bool_lst, ty_str_non, ty_str_bl, ty_str_int, ty_str_str, ty_str_tup, ty_str_lst, ty_tuple_non, ty_tuple_bl, ty_tuple_int, ty_tuple_str, ty_tuple_tup, ty_tuple_lst, ty_list_non, ty_list_bl, ty_list_int, ty_list_str, ty_list_tup, ty_list_lst, o1_neg, o1_not, o1_len_str, o1_len_tup, o1_len_lst, o1_len_scr, o1_tuple_lst, o1_tuple_tup, o1_list_lst, o1_list_tup, o1_all, o1_any, o1_sum, o1_int_int, o1_int_bl, o1_int_str, o1_str_int, o1_str_str, o1_repr_int, o1_repr_bl, o1_abs, o1_isi, o1_isB, o1_notB, o1_bits, o1_rev, o1_isN_non, o1_notN_non, o1_isN_bl, o1_notN_bl, o1_isN_int, o1_notN_int, o1_isN_str, o1_notN_str, o1_isN_tup, o1_notN_tup, o1_isN_lst, o1_notN_lst, o1_isN_ref, o1_notN_ref, o1_isN_scr, o1_notN_scr, sl_tup, sl_lst, sl_str, ao_int, ao_str, it_tup, it_lst, it_str, bg_nm, bg_tup, bg_lst, bg_nil, bg_cons, rc_add, rc_sub, rc_mul, rc_fdiv, rc_mod, rc_pow, rc_band, rc_bor, rc_bxor, rc_shl, rc_shr, rc_eq, rc_ne, rc_lt, rc_le, rc_gt, rc_ge, rc_in, rc_nin, rc_idx, rc_min, rc_max, rc_count, rc_join, wi_nil, wi_cons, sm_nil, sb_non, sb_bl, sb_int, sb_str, sb_tup, sb_lst, sb_ref, sb_own, no_nil, sm_cons, no_cons, sizeLine_eq, hJ, rngL_len]
    refine ⟨by omega, wp_loopC (fun i ds M => ∃ l : List Int, ds = l.map .int ∧ l.length = i ∧ (∀ b ∈ l, 0 ≤ b ∧ b < 256) ∧ Bag M r) ⟨[], rfl, rfl, by simp, hb⟩ (fun i ds M h => rfl) (fun i x ds M hx hP => ?_) (fun ds M hP => ?_)⟩
    · obtain ⟨l, rfl, hl, hb1, hb⟩ := hP
      simp [wp_nil, wp_ok, wp_bad, wp_exc, wp_bind, wp_sb, wp_opt_some, wp_opt_none, wp_opt_ite, wp_opt_bind, wp_opt_map, wp_ite, wp_calm, ex, evE, evEs, evB, evAnd, evOr, evT, evAll, evAny, evI, enter, fin1_rt, fin1_nx, fin1_xc, nx1_nx, nx1_rt, nx1_bk, nx1_ct, nx1_xc, mulOk, rngOk, D.isOwn, rs_non, rs_bl, rs_int, rs_str, rs_tup, rs_lst, rs_scr, rs_ow, o2_add_int, o2_sub_int, o2_mul_int, o2_fdiv_int, o2_mod_int, o2_pow_int, o2_band_int, o2_bor_int, o2_bxor_int, o2_shl_int, o2_shr_int, o2_lt_int, o2_le_int, o2_gt_int, o2_ge_int, o2_min_int, o2_max_int, o2_add_str, o2_add_tup, o2_add_lst, o2_mul_lst, o2_eq, o2_ne, o2_in, o2_nin, o2_idx_tup, o2_idx_lst, o2_idx_scr, o2_idx_str, o2_count, o2_join, eq_int, eq_str, eq_bl, eq_non_non, eq_non_bl, eq_non_int, eq_non_str, eq_non_tup, eq_non_lst, eq_bl_non, eq_bl_int, eq_bl_str, eq_bl_tup, eq_bl_lst, eq_int_non, eq_int_bl, eq_int_str, eq_int_tup, eq_int_lst, eq_str_non, eq_str_bl, eq_str_int, eq_str_tup, eq_str_lst, eq_tup_non, eq_tup_bl, eq_tup_int, eq_tup_str, eq_tup_tup, eq_tup_lst, eq_lst_non, eq_lst_bl, eq_lst_int, eq_lst_str, eq_lst_tup, eq_lst_lst, tr_non, tr_bl, tr_int, tr_str, tr_tup, tr_lst, ty_int_non, ty_int_bl, ty_int_int, ty_int_str, ty_int_tup, ty_int_lst, ty_bool_non, ty_bool_bl, ty_bool_int, ty_bool_str, ty_bool_tup, ty_bool_lst, ty_str_non, ty_str_bl, ty_str_int, ty_str_str, ty_str_tup, ty_str_lst, ty_tuple_non, ty_tuple_bl, ty_tuple_int, ty_tuple_str, ty_tuple_tup, ty_tuple_lst, ty_list_non, ty_list_bl, ty_list_int, ty_list_str, ty_list_tup, ty_list_lst, o1_neg, o1_not, o1_len_str, o1_len_tup, o1_len_lst, o1_len_scr, o1_tuple_lst, o1_tuple_tup, o1_list_lst, o1_list_tup, o1_all, o1_any, o1_sum, o1_int_int, o1_int_bl, o1_int_str, o1_str_int, o1_str_str, o1_repr_int, o1_repr_bl, o1_abs, o1_isi, o1_isB, o1_notB, o1_bits, o1_rev, o1_isN_non, o1_notN_non, o1_isN_bl, o1_notN_bl, o1_isN_int, o1_notN_int, o1_isN_str, o1_notN_str, o1_isN_tup, o1_notN_tup, o1_isN_lst, o1_notN_lst, o1_isN_ref, o1_notN_ref, o1_isN_scr, o1_notN_scr, sl_tup, sl_lst, sl_str, ao_int, ao_str, it_tup, it_lst, it_str, bg_nm, bg_tup, bg_lst, bg_nil, bg_cons, rc_add, rc_sub, rc_mul, rc_fdiv, rc_mod, rc_pow, rc_band, rc_bor, rc_bxor, rc_shl, rc_shr, rc_eq, rc_ne, rc_lt, rc_le, rc_gt, rc_ge, rc_in, rc_nin, rc_idx, rc_min, rc_max, rc_count, rc_join, wi_nil, wi_cons, sm_nil, sb_non, sb_bl, sb_int, sb_str, sb_tup, sb_lst, sb_ref, sb_own, no_nil, sm_cons, no_cons]
      refine h.draw hb (by decide) (by decide +kernel) fun y M h1 h2 hb => ?_
      refine ⟨l ++ [y], by simp, by simp [hl], fun b hb => ?_, hb⟩
      rcases List.mem_append.mp hb with q | q
      · exact hb1 b q
      · rw [List.mem_singleton.mp q]; exact ⟨h1, h2⟩
    obtain ⟨l, rfl, hl, hb1, hb⟩ := hP
    rw [rngL_len] at hl
    rw [wp_seq]
    simp [wp_nil, wp_ok, wp_bad, wp_exc, wp_bind, wp_sb, wp_opt_some, wp_opt_none, wp_opt_ite, wp_opt_bind, wp_opt_map, wp_ite, wp_calm, ex, evE, evEs, evB, evAnd, evOr, evT, evAll, evAny, evI, enter, fin1_rt, fin1_nx, fin1_xc, nx1_nx, nx1_rt, nx1_bk, nx1_ct, nx1_xc, mulOk, rngOk, D.isOwn, rs_non, rs_bl, rs_int, rs_str, rs_tup, rs_lst, rs_scr, rs_ow, o2_add_int, o2_sub_int, o2_mul_int, o2_fdiv_int, o2_mod_int, o2_pow_int, o2_band_int, o2_bor_int, o2_bxor_int, o2_shl_int, o2_shr_int, o2_lt_int, o2_le_int, o2_gt_int, o2_ge_int, o2_min_int, o2_max_int, o2_add_str, o2_add_tup, o2_add_lst, o2_mul_lst, o2_eq, o2_ne, o2_in, o2_nin, o2_idx_tup, o2_idx_lst, o2_idx_scr, o2_idx_str, o2_count, o2_join, eq_int, eq_str, eq_bl, eq_non_non, eq_non_bl, eq_non_int, eq_non_str, eq_non_tup, eq_non_lst, eq_bl_non, eq_bl_int, eq_bl_str, eq_bl_tup, eq_bl_lst, eq_int_non, eq_int_bl, eq_int_str, eq_int_tup, eq_int_lst, eq_str_non, eq_str_bl, eq_str_int, eq_str_tup, eq_str_lst, eq_tup_non, eq_tup_bl, eq_tup_int, eq_tup_str, eq_tup_tup, eq_tup_lst, eq_lst_non, eq_lst_bl, eq_lst_int, eq_lst_str, eq_lst_tup, eq_lst_lst, tr_non, tr_bl, tr_int, tr_str, tr_tup, tr_lst, ty_int_non, ty_int_bl, ty_int_int, ty_int_str, ty_int_tup, ty_int_lst, ty_bool_non, ty_bool_bl, ty_bool_int, ty_bool_str, ty_bool_tup, ty_bool_lst, ty_str_non, ty_str_bl, ty_str_int, ty_str_str, ty_str_tup, ty_str_lst, ty_tuple_non, ty_tuple_bl, ty_tuple_int, ty_tuple_str, ty_tuple_tup, ty_tuple_lst, ty_list_non, ty_list_bl, ty_list_int, ty_list_str, ty_list_tup, ty_list_lst, o1_neg, o1_not, o1_len_str, o1_len_tup, o1_len_lst, o1_len_scr, o1_tuple_lst, o1_tuple_tup, o1_list_lst, o1_list_tup, o1_all, o1_any, o1_sum, o1_int_int, o1_int_bl, o1_int_str, o1_str_int, o1_str_str, o1_repr_int, o1_repr_bl, o1_abs, o1_isi, o1_isB, o1_notB, o1_bits, o1_rev, o1_isN_non, o1_notN_non, o1_isN_bl, o1_notN_bl, o1_isN_int, o1_notN_int, o1_isN_str, o1_notN_str, o1_isN_tup, o1_notN_tup, o1_isN_lst, o1_notN_lst, o1_isN_ref, o1_notN_ref, o1_isN_scr, o1_notN_scr, sl_tup, sl_lst, sl_str, ao_int, ao_str, it_tup, it_lst, it_str, bg_nm, bg_tup, bg_lst, bg_nil, bg_cons, rc_add, rc_sub, rc_mul, rc_fdiv, rc_mod, rc_pow, rc_band, rc_bor, rc_bxor, rc_shl, rc_shr, rc_eq, rc_ne, rc_lt, rc_le, rc_gt, rc_ge, rc_in, rc_nin, rc_idx, rc_min, rc_max, rc_count, rc_join, wi_nil, wi_cons, sm_nil, sb_non, sb_bl, sb_int, sb_str, sb_tup, sb_lst, sb_ref, sb_own, no_nil, sm_cons, no_cons]
    rw [wp_seq]
    simp [wp_nil, wp_ok, wp_bad, wp_exc, wp_bind, wp_sb, wp_opt_some, wp_opt_none, wp_opt_ite, wp_opt_bind, wp_opt_map, wp_ite, wp_calm, ex, evE, evEs, evB, evAnd, evOr, evT, evAll, evAny, evI, enter, fin1_rt, fin1_nx, fin1_xc, nx1_nx, nx1_rt, nx1_bk, nx1_ct, nx1_xc, mulOk, rngOk, D.isOwn, rs_non, rs_bl, rs_int, rs_str, rs_tup, rs_lst, rs_scr, rs_ow, o2_add_int, o2_sub_int, o2_mul_int, o2_fdiv_int, o2_mod_int, o2_pow_int, o2_band_int, o2_bor_int, o2_bxor_int, o2_shl_int, o2_shr_int, o2_lt_int, o2_le_int, o2_gt_int, o2_ge_int, o2_min_int, o2_max_int, o2_add_str, o2_add_tup, o2_add_lst, o2_mul_lst, o2_eq, o2_ne, o2_in, o2_nin, o2_idx_tup, o2_idx_lst, o2_idx_scr, o2_idx_str, o2_count, o2_join, eq_int, eq_str, eq_bl, eq_non_non, eq_non_bl, eq_non_int, eq_non_str, eq_non_tup, eq_non_lst, eq_bl_non, eq_bl_int, eq_bl_str, eq_bl_tup, eq_bl_lst, eq_int_non, eq_int_bl, eq_int_str, eq_int_tup, eq_int_lst, eq_str_non, eq_str_bl, eq_str_int, eq_str_tup, eq_str_lst, eq_tup_non, eq_tup_bl, eq_tup_int, eq_tup_str, eq_tup_tup, eq_tup_lst, eq_lst_non, eq_lst_bl, eq_lst_int, eq_lst_str, eq_lst_tup, eq_lst_lst, tr_non, tr_bl, tr_int, tr_str, tr_tup, tr_lst, ty_int_non, ty_int_bl, ty_int_int, ty_int_str, ty_int_tup, ty_int_lst, ty_bool_non, ty_bool_bl, ty_bool_int, ty_bool_str, ty_bool_tup, ty_bool_lst, ty_str_non, ty_str_bl, ty_str_int, ty_str_str, ty_str_tup, ty_str_lst, ty_tuple_non, ty_tuple_bl, ty_tuple_int, ty_tuple_str, ty_tuple_tup, ty_tuple_lst, ty_list_non, ty_list_bl, ty_list_int, ty_list_str, ty_list_tup, ty_list_lst, o1_neg, o1_not, o1_len_str, o1_len_tup, o1_len_lst, o1_len_scr, o1_tuple_lst, o1_tuple_tup, o1_list_lst, o1_list_tup, o1_all, o1_any, o1_sum, o1_int_int, o1_int_bl, o1_int_str, o1_str_int, o1_str_str, o1_repr_int, o1_repr_bl, o1_abs, o1_isi, o1_isB, o1_notB, o1_bits, o1_rev, o1_isN_non, o1_notN_non, o1_isN_bl, o1_notN_bl, o1_isN_int, o1_notN_int, o1_isN_str, o1_notN_str, o1_isN_tup, o1_notN_tup, o1_isN_lst, o1_notN_lst, o1_isN_ref, o1_notN_ref, o1_isN_scr, o1_notN_scr, sl_tup, sl_lst, sl_str, ao_int, ao_str, it_tup, it_lst, it_str, bg_nm, bg_tup, bg_lst, bg_nil, bg_cons, rc_add, rc_sub, rc_mul, rc_fdiv, rc_mod, rc_pow, rc_band, rc_bor, rc_bxor, rc_shl, rc_shr, rc_eq, rc_ne, rc_lt, rc_le, rc_gt, rc_ge, rc_in, rc_nin, rc_idx, rc_min, rc_max, rc_count, rc_join, wi_nil, wi_cons, sm_nil, sb_non, sb_bl, sb_int, sb_str, sb_tup, sb_lst, sb_ref, sb_own, no_nil, sm_cons, no_cons]
    refine wp_loopF (fun i s M' => ∃ x, s = [.val (.scr ns), .val (.int K), .val (.ref r), .val (.int N), .val (.int ((N + 2147483648) % 4294967296 + -2147483648)), .val (.int lo), .val (.int (lo + j)), .val (.lst [.int 1]), .val (.lst (l.map .int)), .val (.int (foldN (l.take i))), x, a11, a12] ∧ M' = M) ?g0 (fun i s M' h => rfl) (fun i x s M' hx hs => ?_) (fun s M' hs => ?_)
    case g0 => exact ⟨a10, by simp [foldN]⟩
    · obtain ⟨y, rfl, rfl⟩ := hs
      rw [List.getElem?_map] at hx
      cases e : l[i]? with
      | none => rw [e] at hx; cases hx
      | some b =>
        rw [e] at hx
        cases hx
        simp [wp_seq, exs, wp_nil, wp_ok, wp_bad, wp_exc, wp_bind, wp_sb, wp_opt_some, wp_opt_none, wp_opt_ite, wp_opt_bind, wp_opt_map, wp_ite, wp_calm, ex, evE, evEs, evB, evAnd, evOr, evT, evAll, evAny, evI, enter, fin1_rt, fin1_nx, fin1_xc, nx1_nx, nx1_rt, nx1_bk, nx1_ct, nx1_xc, mulOk, rngOk, D.isOwn, rs_non, rs_bl, rs_int, rs_str, rs_tup, rs_lst, rs_scr, rs_ow, o2_add_int, o2_sub_int, o2_mul_int, o2_fdiv_int, o2_mod_int, o2_pow_int, o2_band_int, o2_bor_int, o2_bxor_int, o2_shl_int, o2_shr_int, o2_lt_int, o2_le_int, o2_gt_int, o2_ge_int, o2_min_int, o2_max_int, o2_add_str, o2_add_tup, o2_add_lst, o2_mul_lst, o2_eq, o2_ne, o2_in, o2_nin, o2_idx_tup, o2_idx_lst, o2_idx_scr, o2_idx_str, o2_count, o2_join, eq_int, eq_str, eq_bl, eq_non_non, eq_non_bl, eq_non_int, eq_non_str, eq_non_tup, eq_non_lst, eq_bl_non, eq_bl_int, eq_bl_str, eq_bl_tup, eq_bl_lst, eq_int_non, eq_int_bl, eq_int_str, eq_int_tup, eq_int_lst, eq_str_non, eq_str_bl, eq_str_int, eq_str_tup, eq_str_lst, eq_tup_non, eq_tup_bl, eq_tup_int, eq_tup_str, eq_tup_tup, eq_tup_lst, eq_lst_non, eq_lst_bl, eq_lst_int, eq_lst_str, eq_lst_tup, eq_lst_lst, tr_non, tr_bl, tr_int, tr_str, tr_tup, tr_lst, ty_int_non, ty_int_bl, ty_int_int, ty_int_str, ty_int_tup, ty_int_lst, ty_bool_non, ty_bool_bl, ty_bool_int, ty_bool_str, ty_bool_tup, ty_bool_lst, ty_str_non, ty_str_bl, ty_str_int, ty_str_str, ty_str_tup, ty_str_lst, ty_tuple_non, ty_tuple_bl, ty_tuple_int, ty_tuple_str, ty_tuple_tup, ty_tuple_lst, ty_list_non, ty_list_bl, ty_list_int, ty_list_str, ty_list_tup, ty_list_lst, o1_neg, o1_not, o1_len_str, o1_len_tup, o1_len_lst, o1_len_scr, o1_tuple_lst, o1_tuple_tup, o1_list_lst, o1_list_tup, o1_all, o1_any, o1_sum, o1_int_int, o1_int_bl, o1_int_str, o1_str_int, o1_str_str, o1_repr_int, o1_repr_bl, o1_abs, o1_isi, o1_isB, o1_notB, o1_bits, o1_rev, o1_isN_non, o1_notN_non, o1_isN_bl, o1_notN_bl, o1_isN_int, o1_notN_int, o1_isN_str, o1_notN_str, o1_isN_tup, o1_notN_tup, o1_isN_lst, o1_notN_lst, o1_isN_ref, o1_notN_ref, o1_isN_scr, o1_notN_scr, sl_tup, sl_lst, sl_str, ao_int, ao_str, it_tup, it_lst, it_str, bg_nm, bg_tup, bg_lst, bg_nil, bg_cons, rc_add, rc_sub, rc_mul, rc_fdiv, rc_mod, rc_pow, rc_band, rc_bor, rc_bxor, rc_shl, rc_shr, rc_eq, rc_ne, rc_lt, rc_le, rc_gt, rc_ge, rc_in, rc_nin, rc_idx, rc_min, rc_max, rc_count, rc_join, wi_nil, wi_cons, sm_nil, sb_non, sb_bl, sb_int, sb_str, sb_tup, sb_lst, sb_ref, sb_own, no_nil, sm_cons, no_cons]
        rw [List.take_succ, e]
        exact (foldN_snoc _ _).symm
    obtain ⟨y, rfl, rfl⟩ := hs
    rw [List.length_map, List.take_length]
    rw [nx1_nx]
    exact tail_wp h (s0 := .val (.scr ns)) hb (by omega) hb1 fun x M' => ⟨_, _, _, _, _, _, _, _, _, _, _, _, rfl⟩
  · obtain ⟨a1, a2, a3, a4, a5, a6, a7, a8, a9, a10, a11, a12, rfl⟩ := hs
    rw [nx1_nx, wp_seq]
    simp [wp_nil, wp_ok, wp_bad, wp_exc, wp_bind, wp_sb, wp_opt_some, wp_opt_none, wp_opt_ite, wp_opt_bind, wp_opt_map, wp_ite, wp_calm, ex, evE, evEs, evB, evAnd, evOr, evT, evAll, evAny, evI, enter, fin1_rt, fin1_nx, fin1_xc, nx1_nx, nx1_rt, nx1_bk, nx1_ct, nx1_xc, mulOk, rngOk, D.isOwn, rs_non, rs_bl, rs_int, rs_str, rs_tup, rs_lst, rs_scr, rs_ow, o2_add_int, o2_sub_int, o2_mul_int, o2_fdiv_int, o2_mod_int, o2_pow_int, o2_band_int, o2_bor_int, o2_bxor_int, o2_shl_int, o2_shr_int, o2_lt_int, o2_le_int, o2_gt_int, o2_ge_int, o2_min_int, o2_max_int, o2_add_str, o2_add_tup, o2_add_lst, o2_mul_lst, o2_eq, o2_ne, o2_in, o2_nin, o2_idx_tup, o2_idx_lst, o2_idx_scr, o2_idx_str, o2_count, o2_join, eq_int, eq_str, eq_bl, eq_non_non, eq_non_bl, eq_non_int, eq_non_str, eq_non_tup, eq_non_lst, eq_bl_non, eq_bl_int, eq_bl_str, eq_bl_tup, eq_bl_lst, eq_int_non, eq_int_bl, eq_int_str, eq_int_tup, eq_int_lst, eq_str_non, eq_str_bl, eq_str_int, eq_str_tup, eq_str_lst, eq_tup_non, eq_tup_bl, eq_tup_int, eq_tup_str, eq_tup_tup, eq_tup_lst, eq_lst_non, eq_lst_bl, eq_lst_int, eq_lst_str, eq_lst_tup, eq_lst_lst, tr_non, tr_bl, tr_int, tr_str, tr_tup, tr_lst, ty_int_non, ty_int_bl, ty_int_int, ty_int_str, ty_int_tup, ty_int_lst, ty_bool_non, ty_bool_bl, ty_bool_int, ty_bool_str, ty_bool_tup, ty_bool_lst, ty_str_non, ty_str_bl, ty_str_int, ty_str_str, ty_str_tup, ty_str_lst, ty_tuple_non, ty_tuple_bl, ty_tuple_int, ty_tuple_str, ty_tuple_tup, ty_tuple_lst, ty_list_non, ty_list_bl, ty_list_int, ty_list_str, ty_list_tup, ty_list_lst, o1_neg, o1_not, o1_len_str, o1_len_tup, o1_len_lst, o1_len_scr, o1_tuple_lst, o1_tuple_tup, o1_list_lst, o1_list_tup, o1_all, o1_any, o1_sum, o1_int_int, o1_int_bl, o1_int_str, o1_str_int, o1_str_str, o1_repr_int, o1_repr_bl, o1_abs, o1_isi, o1_isB, o1_notB, o1_bits, o1_rev, o1_isN_non, o1_notN_non, o1_isN_bl, o1_notN_bl, o1_isN_int, o1_notN_int, o1_isN_str, o1_notN_str, o1_isN_tup, o1_notN_tup, o1_isN_lst, o1_notN_lst, o1_isN_ref, o1_notN_ref, o1_isN_scr, o1_notN_scr, sl_tup, sl_lst, sl_str, ao_int, ao_str, it_tup, it_lst, it_str, bg_nm, bg_tup, bg_lst, bg_nil, bg_cons, rc_add, rc_sub, rc_mul, rc_fdiv, rc_mod, rc_pow, rc_band, rc_bor, rc_bxor, rc_shl, rc_shr, rc_eq, rc_ne, rc_lt, rc_le, rc_gt, rc_ge, rc_in, rc_nin, rc_idx, rc_min, rc_max, rc_count, rc_join, wi_nil, wi_cons, sm_nil, sb_non, sb_bl, sb_int, sb_str, sb_tup, sb_lst, sb_ref, sb_own, no_nil, sm_cons, no_cons, sizeLine_eq]
    refine h.number (l := []) ?_
    simp [wp_nil, wp_ok, wp_bad, wp_exc, wp_bind, wp_sb, wp_opt_some, wp_opt_none, wp_opt_ite, wp_opt_bind, wp_opt_map, wp_ite, wp_calm, ex, evE, evEs, evB, evAnd, evOr, evT, evAll, evAny, evI, enter, fin1_rt, fin1_nx, fin1_xc, nx1_nx, nx1_rt, nx1_bk, nx1_ct, nx1_xc, mulOk, rngOk, D.isOwn, rs_non, rs_bl, rs_int, rs_str, rs_tup, rs_lst, rs_scr, rs_ow, o2_add_int, o2_sub_int, o2_mul_int, o2_fdiv_int, o2_mod_int, o2_pow_int, o2_band_int, o2_bor_int, o2_bxor_int, o2_shl_int, o2_shr_int, o2_lt_int, o2_le_int, o2_gt_int, o2_ge_int, o2_min_int, o2_max_int, o2_add_str, o2_add_tup, o2_add_lst, o2_mul_lst, o2_eq, o2_ne, o2_in, o2_nin, o2_idx_tup, o2_idx_lst, o2_idx_scr, o2_idx_str, o2_count, o2_join, eq_int, eq_str, eq_bl, eq_non_non, eq_non_bl, eq_non_int, eq_non_str, eq_non_tup, eq_non_lst, eq_bl_non, eq_bl_int, eq_bl_str, eq_bl_tup, eq_bl_lst, eq_int_non, eq_int_bl, eq_int_str, eq_int_tup, eq_int_lst, eq_str_non, eq_str_bl, eq_str_int, eq_str_tup, eq_str_lst, eq_tup_non, eq_tup_bl, eq_tup_int, eq_tup_str, eq_tup_tup, eq_tup_lst, eq_lst_non, eq_lst_bl, eq_lst_int, eq_lst_str, eq_lst_tup, eq_lst_lst, tr_non, tr_bl, tr_int, tr_str, tr_tup, tr_lst, ty_int_non, ty_int_bl, ty_int_int, ty_int_str, ty_int_tup, ty_int_lst, ty_bool_non, ty_bool_bl, ty_bool_int, ty_bool_str, ty_bool_tup, ty_bool_lst, ty_str_non, ty_str_bl, ty_str_int, ty_str_str, ty_str_tup, ty_str_lst, ty_tuple_non, ty_tuple_bl, ty_tuple_int, ty_tuple_str, ty_tuple_tup, ty_tuple_lst, ty_list_non, ty_list_bl, ty_list_int, ty_list_str, ty_list_tup, ty_list_lst, o1_neg, o1_not, o1_len_str, o1_len_tup, o1_len_lst, o1_len_scr, o1_tuple_lst, o1_tuple_tup, o1_list_lst, o1_list_tup, o1_all, o1_any, o1_sum, o1_int_int, o1_int_bl, o1_int_str, o1_str_int, o1_str_str, o1_repr_int, o1_repr_bl, o1_abs, o1_isi, o1_isB, o1_notB, o1_bits, o1_rev, o1_isN_non, o1_notN_non, o1_isN_bl, o1_notN_bl, o1_isN_int, o1_notN_int, o1_isN_str, o1_notN_str, o1_isN_tup, o1_notN_tup, o1_isN_lst, o1_notN_lst, o1_isN_ref, o1_notN_ref, o1_isN_scr, o1_notN_scr, sl_tup, sl_lst, sl_str, ao_int, ao_str, it_tup, it_lst, it_str, bg_nm, bg_tup, bg_lst, bg_nil, bg_cons, rc_add, rc_sub, rc_mul, rc_fdiv, rc_mod, rc_pow, rc_band, rc_bor, rc_bxor, rc_shl, rc_shr, rc_eq, rc_ne, rc_lt, rc_le, rc_gt, rc_ge, rc_in, rc_nin, rc_idx, rc_min, rc_max, rc_count, rc_join, wi_nil, wi_cons, sm_nil, sb_non, sb_bl, sb_int, sb_str, sb_tup, sb_lst, sb_ref, sb_own, no_nil, sm_cons, no_cons, foldN]
    refine h.bytes (by decide) (by decide) ?_
    simp [wp_nil, wp_ok, wp_bad, wp_exc, wp_bind, wp_sb, wp_opt_some, wp_opt_none, wp_opt_ite, wp_opt_bind, wp_opt_map, wp_ite, wp_calm, ex, evE, evEs, evB, evAnd, evOr, evT, evAll, evAny, evI, enter, fin1_rt, fin1_nx, fin1_xc, nx1_nx, nx1_rt, nx1_bk, nx1_ct, nx1_xc, mulOk, rngOk, D.isOwn, rs_non, rs_bl, rs_int, rs_str, rs_tup, rs_lst, rs_scr, rs_ow, o2_add_int, o2_sub_int, o2_mul_int, o2_fdiv_int, o2_mod_int, o2_pow_int, o2_band_int, o2_bor_int, o2_bxor_int, o2_shl_int, o2_shr_int, o2_lt_int, o2_le_int, o2_gt_int, o2_ge_int, o2_min_int, o2_max_int, o2_add_str, o2_add_tup, o2_add_lst, o2_mul_lst, o2_eq, o2_ne, o2_in, o2_nin, o2_idx_tup, o2_idx_lst, o2_idx_scr, o2_idx_str, o2_count, o2_join, eq_int, eq_str, eq_bl, eq_non_non, eq_non_bl, eq_non_int, eq_non_str, eq_non_tup, eq_non_lst, eq_bl_non, eq_bl_int, eq_bl_str, eq_bl_tup, eq_bl_lst, eq_int_non, eq_int_bl, eq_int_str, eq_int_tup, eq_int_lst, eq_str_non, eq_str_bl, eq_str_int, eq_str_tup, eq_str_lst, eq_tup_non, eq_tup_bl, eq_tup_int, eq_tup_str, eq_tup_tup, eq_tup_lst, eq_lst_non, eq_lst_bl, eq_lst_int, eq_lst_str, eq_lst_tup, eq_lst_lst, tr_non, tr_bl, tr_int, tr_str, tr_tup, tr_lst, ty_int_non, ty_int_bl, ty_int_int, ty_int_str, ty_int_tup, ty_int_lst, ty_bool_non, ty_bool_bl, ty_bool_int, ty_bool_str, ty_bool_tup, ty_bool_lst, ty_str_non, ty_str_bl, ty_str_int, ty_str_str, ty_str_tup, ty_str_lst, ty_tuple_non, ty_tuple_bl, ty_tuple_int, ty_tuple_str, ty_tuple_tup, ty_tuple_lst, ty_list_non, ty_list_bl, ty_list_int, ty_list_str, ty_list_tup, ty_list_lst, o1_neg, o1_not, o1_len_str, o1_len_tup, o1_len_lst, o1_len_scr, o1_tuple_lst, o1_tuple_tup, o1_list_lst, o1_list_tup, o1_all, o1_any, o1_sum, o1_int_int, o1_int_bl, o1_int_str, o1_str_int, o1_str_str, o1_repr_int, o1_repr_bl, o1_abs, o1_isi, o1_isB, o1_notB, o1_bits, o1_rev, o1_isN_non, o1_notN_non, o1_isN_bl, o1_notN_bl, o1_isN_int, o1_notN_int, o1_isN_str, o1_notN_str, o1_isN_tup, o1_notN_tup, o1_isN_lst, o1_notN_lst, o1_isN_ref, o1_notN_ref, o1_isN_scr, o1_notN_scr, sl_tup, sl_lst, sl_str, ao_int, ao_str, it_tup, it_lst, it_str, bg_nm, bg_tup, bg_lst, bg_nil, bg_cons, rc_add, rc_sub, rc_mul, rc_fdiv, rc_mod, rc_pow, rc_band, rc_bor, rc_bxor, rc_shl, rc_shr, rc_eq, rc_ne, rc_lt, rc_le, rc_gt, rc_ge, rc_in, rc_nin, rc_idx, rc_min, rc_max, rc_count, rc_join, wi_nil, wi_cons, sm_nil, sb_non, sb_bl, sb_int, sb_str, sb_tup, sb_lst, sb_ref, sb_own, no_nil, sm_cons, no_cons, digits]
    refine ⟨sh_ints [], eqv_self (sh_ints []), h.isby (l := []) rfl (by decide) ?_⟩
    simp [wp_nil, wp_ok, wp_bad, wp_exc, wp_bind, wp_sb, wp_opt_some, wp_opt_none, wp_opt_ite, wp_opt_bind, wp_opt_map, wp_ite, wp_calm, ex, evE, evEs, evB, evAnd, evOr, evT, evAll, evAny, evI, enter, fin1_rt, fin1_nx, fin1_xc, nx1_nx, nx1_rt, nx1_bk, nx1_ct, nx1_xc, mulOk, rngOk, D.isOwn, rs_non, rs_bl, rs_int, rs_str, rs_tup, rs_lst, rs_scr, rs_ow, o2_add_int, o2_sub_int, o2_mul_int, o2_fdiv_int, o2_mod_int, o2_pow_int, o2_band_int, o2_bor_int, o2_bxor_int, o2_shl_int, o2_shr_int, o2_lt_int, o2_le_int, o2_gt_int, o2_ge_int, o2_min_int, o2_max_int, o2_add_str, o2_add_tup, o2_add_lst, o2_mul_lst, o2_eq, o2_ne, o2_in, o2_nin, o2_idx_tup, o2_idx_lst, o2_idx_scr, o2_idx_str, o2_count, o2_join, eq_int, eq_str, eq_bl, eq_non_non, eq_non_bl, eq_non_int, eq_non_str, eq_non_tup, eq_non_lst, eq_bl_non, eq_bl_int, eq_bl_str, eq_bl_tup, eq_bl_lst, eq_int_non, eq_int_bl, eq_int_str, eq_int_tup, eq_int_lst, eq_str_non, eq_str_bl, eq_str_int, eq_str_tup, eq_str_lst, eq_tup_non, eq_tup_bl, eq_tup_int, eq_tup_str, eq_tup_tup, eq_tup_lst, eq_lst_non, eq_lst_bl, eq_lst_int, eq_lst_str, eq_lst_tup, eq_lst_lst, tr_non, tr_bl, tr_int, tr_str, tr_tup, tr_lst, ty_int_non, ty_int_bl, ty_int_int, ty_int_str, ty_int_tup, ty_int_lst, ty_bool_non, ty_bool_bl, ty_bool_int, ty_bool_str, ty_bool_tup, ty_bool_lst, ty_str_non, ty_str_bl, ty_str_int, ty_str_str, ty_str_tup, ty_str_lst, ty_tuple_non, ty_tuple_bl, ty_tuple_int, ty_tuple_str, ty_tuple_tup, ty_tuple_lst, ty_list_non, ty_list_bl, ty_list_int, ty_list_str, ty_list_tup, ty_list_lst, o1_neg, o1_not, o1_len_str, o1_len_tup, o1_len_lst, o1_len_scr, o1_tuple_lst, o1_tuple_tup, o1_list_lst, o1_list_tup, o1_all, o1_any, o1_sum, o1_int_int, o1_int_bl, o1_int_str, o1_str_int, o1_str_str, o1_repr_int, o1_repr_bl, o1_abs, o1_isi, o1_isB, o1_notB, o1_bits, o1_rev, o1_isN_non, o1_notN_non, o1_isN_bl, o1_notN_bl, o1_isN_int, o1_notN_int, o1_isN_str, o1_notN_str, o1_isN_tup, o1_notN_tup, o1_isN_lst, o1_notN_lst, o1_isN_ref, o1_notN_ref, o1_isN_scr, o1_notN_scr, sl_tup, sl_lst, sl_str, ao_int, ao_str, it_tup, it_lst, it_str, bg_nm, bg_tup, bg_lst, bg_nil, bg_cons, rc_add, rc_sub, rc_mul, rc_fdiv, rc_mod, rc_pow, rc_band, rc_bor, rc_bxor, rc_shl, rc_shr, rc_eq, rc_ne, rc_lt, rc_le, rc_gt, rc_ge, rc_in, rc_nin, rc_idx, rc_min, rc_max, rc_count, rc_join, wi_nil, wi_cons, sm_nil, sb_non, sb_bl, sb_int, sb_str, sb_tup, sb_lst, sb_ref, sb_own, no_nil, sm_cons, no_cons, isIb]

theorem specs : Specs (envN fs E0 30) where
  isint := fun v hv lo hi M Q E => is_integer_eq 29 v hv lo hi M Q E
  isnum := fun v hv M Q E => is_number_eq 28 v hv M Q E
  isby := fun {l M Q E} h1 h2 q => is_bytes_wp (n := 28) (l := l) (M := M) (Q := Q) (E := E) h1 h2 q
  isbl := fun {l M Q E} q => is_bytes_lst (n := 28) (l := l) (M := M) (Q := Q) (E := E) q
  wrap := fun i M Q E => wrap_eq 29 i M Q E
  clip := fun i lo hi M Q E => clip_eq 29 i lo hi M Q E
  bytes := fun {N K M Q E} h0 h1 q => bytes_of_wp (n := 29) (N := N) (K := K) (M := M) (Q := Q) (E := E) h0 h1 q
  number := fun {l M Q E} q => number_of_wp (n := 29) (l := l) (M := M) (Q := Q) (E := E) q
  bag := fun {ns K M Q E} h q => bag_wp (n := 29) (ns := ns) (K := K) (M := M) (Q := Q) (E := E) h q
  draw := fun {r many M Q E} h h1 h2 k => draw_wp (n := 29) (r := r) (many := many) (M := M) (Q := Q) (E := E) h h1 h2 k
  one := fun {r l M Q E} h h1 h2 k => one_wp (n := 28) (r := r) (l := l) (M := M) (Q := Q) (E := E) h h1 h2 k
  integer := fun {r M Q E} h k => integer_wp (n := 27) (r := r) (M := M) (Q := Q) (E := E) h k
theorem law_ok (ns : List Int) (h : ns.length ≤ 63) : ∃ M, callN fs E0 (30 + 1) 11 [.scr ns] [] = .ok (.bl true) M := by
  have key : wp (callN fs E0 (30 + 1) 11 [.scr ns] []) (fun d _ => d = .bl true) (fun _ _ _ => False) := by
    rw [wp_call (n := 30) (F := f_law) rfl rfl]
    exact law_body specs ns h
  obtain ⟨a, M, e, rfl⟩ := wp_get key
  exact ⟨M, e⟩
end MPL

set_option Elab.async false
set_option linter.all false
set_option maxRecDepth 100000
set_option maxHeartbeats 0
open PySem PySem.W PySem.Calls PyProof.Rows
theorem PySem.Challenge.cw_latemoves_k01_numbers_holds : PySem.Challenge.rw_latemoves_k01_numbers.Holds := by
  w_on; o_law
  refine HandSHeadRun.head_any (r := MPL.RR) (q := view MPL.RR.prog [16]) (H := MPL.hk) (ob := MPL.ob) (M := 4000) (loose := MPL.lo) (d := HandSHeadRun.topDef MPL.RR.prog 16) (kwd := []) MPL.ob_eq
    (by kernel_rfl) (fun s => by kernel_rfl) MPL.run (by kernel_rfl) (by kernel_rfl) (by kernel_rfl) (by rfl) (by first | assumption | decide +kernel) (by decide +kernel) ⟨rfl, rfl, rfl, rfl, rfl, by decide +kernel⟩ ?hw ?hc
  case hw => w_witness2
  case hc =>
    exact MP.walk_law (l := PySem.Challenge.rw_latemoves_k01_numbers) (T := MPL.T0) (N := 63) (n := 30) (hn := 4) (f := 11) (fs := MPL.fs) (E := MPL.E0) (F := MPL.f_law) rfl (by decide) (by kernel_rfl) ⟨rfl, by decide, by decide⟩ rfl MPL.chk rfl rfl rfl (by kernel_rfl) (by kernel_rfl) MPL.law_ok
