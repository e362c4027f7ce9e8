import PyProof.Rows.All
import Wide.All
import OpenK.AllK
import Wide.FinOn
import HandS.ForMost
import HandS.Wide
import HandS.Deep
import HandS.Flow
import HandS.TupAny
import HandS.Strs
import HandS.More
import HandS.StrMore
import HandS.CallRecv
import HandS.HeadWalk
import HandS.Iter
import KE.GoesEnum
import KE.GoesMore
import HandS.IsInst
import KE.KIndexOf
import HandS.Style
import HandS.WideMore
import KE.KStateDown
import HandS.Ends
import HandS.Words
import HandS.WordsExc
import HandS.Defaults
import HandS.Head0
import HandS.Head1
import HandS.Head2
import HandS.HeadEnd
import HandS.EndBits
import HandS.HeadHook1
import HandS.HeadHook2
import PySem.Challenge.RW_ownanswer_k59_ranges_read
set_option Elab.async false
set_option linter.all false
set_option maxRecDepth 100000
/-! MPa: a small language of values: what an expression, a statement, a call gives, as a total function over a heap that is a list. -/
namespace MP
open PySem L2

/-! ### values, objects, results -/
inductive Val where
  | non
  | bl (b : Bool)
  | int (i : Int)
  | str (s : List Nat)
  | tup (vs : List Val)
  | ref (n : Nat)
abbrev Ky := Sum Int (List Nat)
inductive Ob where
  | lst (vs : List Val)
  | frz (vs : List Val)
  | dct (kvs : List (Ky × Val))
  | ins (c : Nat) (fs : List (Nat × Val))
abbrev Hs := List Ob
abbrev Sl := List (Option Val)
inductive R (α : Type) where
  | ok (a : α) (h : Hs)
  | exc (c : Nat) (vs : List Val) (h : Hs)
  | stk
def R.bind {α β : Type} (r : R α) (f : α → Hs → R β) : R β := match r with
  | .ok a h => f a h
  | .exc c vs h => .exc c vs h
  | .stk => .stk
@[simp] theorem R.bind_ok {α β : Type} (a : α) (h : Hs) (f : α → Hs → R β) : (R.ok a h).bind f = f a h := rfl
@[simp] theorem R.bind_exc {α β : Type} (c : Nat) (vs : List Val) (h : Hs) (f : α → Hs → R β) : (R.exc c vs h : R α).bind f = .exc c vs h := rfl
@[simp] theorem R.bind_stk {α β : Type} (f : α → Hs → R β) : (R.stk : R α).bind f = .stk := rfl
def ofO {α : Type} (o : Option α) (h : Hs) : R α := match o with
  | some a => .ok a h
  | none => .stk
@[simp] theorem ofO_some {α : Type} (a : α) (h : Hs) : ofO (some a) h = .ok a h := rfl
@[simp] theorem ofO_none {α : Type} (h : Hs) : ofO (none : Option α) h = .stk := rfl
/-- what a statement ends with -/
inductive O where
  | nx (st : Sl) (h : Hs)
  | rt (v : Val) (h : Hs)
  | bk (st : Sl) (h : Hs)
  | ct (st : Sl) (h : Hs)
  | exc (c : Nat) (vs : List Val) (h : Hs)
  | stk

mutual
def Val.beq : Val → Val → Bool
  | .non, .non => true
  | .bl a, .bl b => decide (a = b)
  | .int a, .int b => decide (a = b)
  | .str a, .str b => decide (a = b)
  | .tup a, .tup b => Val.beqs a b
  | .ref a, .ref b => decide (a = b)
  | _, _ => false
def Val.beqs : List Val → List Val → Bool
  | [], [] => true
  | a :: r, b :: s => Val.beq a b && Val.beqs r s
  | _, _ => false
end
mutual
theorem Val.beq_eq : ∀ (a b : Val), Val.beq a b = true → a = b
  | .non, b, h => by cases b <;> simp_all [Val.beq]
  | .bl a, b, h => by cases b <;> simp_all [Val.beq]
  | .int a, b, h => by cases b <;> simp_all [Val.beq]
  | .str a, b, h => by cases b <;> simp_all [Val.beq]
  | .ref a, b, h => by cases b <;> simp_all [Val.beq]
  | .tup a, .tup b, h => by
    rw [Val.beq] at h
    rw [Val.beqs_eq a b h]
  | .tup a, .non, h => by simp [Val.beq] at h
  | .tup a, .bl _, h => by simp [Val.beq] at h
  | .tup a, .int _, h => by simp [Val.beq] at h
  | .tup a, .str _, h => by simp [Val.beq] at h
  | .tup a, .ref _, h => by simp [Val.beq] at h
theorem Val.beqs_eq : ∀ (a b : List Val), Val.beqs a b = true → a = b
  | [], [], _ => rfl
  | [], _ :: _, h => by simp [Val.beqs] at h
  | _ :: _, [], h => by simp [Val.beqs] at h
  | a :: r, b :: s, h => by
    rw [Val.beqs, Bool.and_eq_true] at h
    rw [Val.beq_eq a b h.1, Val.beqs_eq r s h.2]
end
mutual
theorem Val.beq_refl : ∀ a : Val, Val.beq a a = true
  | .non => by simp [Val.beq]
  | .bl a => by simp [Val.beq]
  | .int a => by simp [Val.beq]
  | .str a => by simp [Val.beq]
  | .ref a => by simp [Val.beq]
  | .tup a => by
    rw [Val.beq]
    exact Val.beqs_refl a
theorem Val.beqs_refl : ∀ a : List Val, Val.beqs a a = true
  | [] => by simp [Val.beqs]
  | a :: r => by
    rw [Val.beqs, Val.beq_refl a, Val.beqs_refl r]
    rfl
end

/-! ### the language -/
inductive Prim where
  | len | int | abs | min | max | str | tuple | list | sum | sorted | ord
  deriving DecidableEq
inductive PM where
  | append | extend | pop | find | split | strip | stripC | lower | upper | join | index | get | get2 | startswith | dpop
  deriving DecidableEq
inductive Ty where
  | bool | int | str | list | tuple
  deriving DecidableEq
/-- a target: a name, or a tuple of names -/
inductive Tg where
  | nm (i : Nat)
  | tup (js : List Nat)
mutual
inductive E where
  | var (i : Nat)
  | non
  | tt (b : Bool)
  | int (i : Int)
  | str (s : List Nat)
  | glob (k : Nat)
  | bin (op : Operator) (a b : E)
  | neg (a : E)
  | not (a : E)
  | cmp (op : CmpOp) (a b : E)
  | chain (op op2 : CmpOp) (a b c : E)
  | chain3 (op op2 op3 : CmpOp) (a b c d : E)
  | and (a b : E)
  | or (a b : E)
  | ife (c a b : E)
  | tup (es : Es)
  | lst (es : Es)
  | dic (kvs : Es)
  | call (f : Nat) (es : Es)
  | new (c : Nat) (es : Es)
  | meth (o : E) (m : Nat) (es : Es)
  | prim (p : Prim) (es : Es)
  | pm (p : PM) (o : E) (es : Es)
  | fld (o : E) (f : Nat)
  | ix (a b : E)
  | sl (a : E) (lo hi : Eo)
  | lc (elt : E) (tg : Tg) (it : I) (cond : Eo) (own : List (Str × Nat))
  | gix (k : Nat) (e : E)
  | isi (e : E) (t : Ty)
inductive Es where
  | nil
  | cons (e : E) (es : Es)
inductive Eo where
  | none
  | some (e : E)
/-- what is walked -/
inductive I where
  | val (e : E)
  | rng1 (a : E)
  | rng2 (a b : E)
  | rng3 (a b c : E)
  | enu (e : E)
end
mutual
inductive S where
  | expr (e : E)
  | asg (t : Tg) (e : E)
  | fld (o : E) (f : Nat) (e : E)
  | sub (o i e : E)
  | aug (i : Nat) (op : Operator) (e : E)
  | augF (o : E) (f : Nat) (op : Operator) (e : E)
  | augS (o i : E) (op : Operator) (e : E)
  | del (o i : E)
  | ifs (c : E) (a b : Ss)
  | fors (t : Tg) (it : I) (body : Ss)
  | whil (c : E) (body : Ss)
  | ret (e : E)
  | retN
  | brk
  | cont
  | pass
inductive Ss where
  | nil
  | cons (s : S) (ss : Ss)
end

/-! ### operations on values -/
def lim : Nat := 16777216
@[simp] def seqOf (h : Hs) : Val → Option (List Val)
  | .tup vs => some vs
  | .ref n => match h[n]? with
    | some (.lst vs) => some vs
    | some (.frz vs) => some vs
    | _ => none
  | _ => none
@[simp] def toKy : Val → Option Ky
  | .int i => some (.inl i)
  | .str s => some (.inr s)
  | _ => none
@[simp] def ofKy : Ky → Val
  | .inl i => .int i
  | .inr s => .str s
def dget (kvs : List (Ky × Val)) (k : Ky) : Option Val := (kvs.find? fun kv => decide (kv.1 = k)).map (·.2)
def dput (kvs : List (Ky × Val)) (k : Ky) (v : Val) : List (Ky × Val) :=
  if (kvs.any fun kv => decide (kv.1 = k)) then kvs.map (fun kv => if kv.1 = k then (kv.1, v) else kv) else kvs ++ [(k, v)]
def dmerge (more : List (Ky × Val)) : List (Ky × Val) := more.foldl (fun acc kv => dput acc kv.1 kv.2) []
def pairsOf : List Val → Option (List (Ky × Val))
  | [] => some []
  | k :: v :: r => match toKy k, pairsOf r with
    | some k, some ps => some ((k, v) :: ps)
    | _, _ => none
  | [_] => none
def ddel (kvs : List (Ky × Val)) (k : Ky) : List (Ky × Val) := kvs.filter fun kv => decide (kv.1 ≠ k)
@[simp] def dctOf (h : Hs) : Val → Option (List (Ky × Val))
  | .ref n => match h[n]? with
    | some (.dct kvs) => some kvs
    | _ => none
  | _ => none
/-- data, for == : lists by their contents -/
def oall {α β : Type} (f : α → Option β) : List α → Option (List β)
  | [] => some []
  | v :: vs => match f v, oall f vs with
    | some d, some ds => some (d :: ds)
    | _, _ => none
def dat (h : Hs) : Nat → Val → Option PyData
  | 0, _ => none
  | n + 1, v => match v with
    | .non => some .none
    | .bl b => some (.bool b)
    | .int i => some (.int i)
    | .str s => some (.str ⟨s.toArray⟩)
    | .tup vs => (oall (dat h n) vs).map .tuple
    | .ref a => match h[a]? with
      | some (.lst vs) => (oall (dat h n) vs).map .list
      | some (.frz vs) => (oall (dat h n) vs).map .list
      | _ => none
def deq (h : Hs) (a b : Val) : Option Bool := match dat h 12 a, dat h 12 b with
  | some d, some e => if SeqAt.shaped d = true ∧ SeqAt.shaped e = true then some (PyData.eqv d e) else none
  | _, _ => none
/-- == -/
@[simp] def eqF (h : Hs) (a b : Val) : Option Bool := match a, b with
  | .non, .non => some true
  | .int i, .int j => some (decide (i = j))
  | .bl i, .bl j => some (decide (i = j))
  | .str i, .str j => some (decide (i = j))
  | .non, .int _ => some false
  | .non, .bl _ => some false
  | .non, .str _ => some false
  | .int _, .non => some false
  | .bl _, .non => some false
  | .str _, .non => some false
  | .int _, .str _ => some false
  | .str _, .int _ => some false
  | .bl _, .str _ => some false
  | .str _, .bl _ => some false
  | a, b => deq h a b
/-- y in xs -/
@[simp] def flat : Val → Bool
  | .non => true
  | .bl _ => true
  | .int _ => true
  | .str _ => true
  | _ => false
def eqW : Val → Val → Bool
  | .non, .non => true
  | .bl a, .bl b => a == b
  | .bl a, .int b => (if a then 1 else 0) == b
  | .int a, .bl b => a == (if b then 1 else 0)
  | .int a, .int b => decide (a = b)
  | .str a, .str b => decide (a = b)
  | _, _ => false
def inDeep (h : Hs) (x : Val) (vs : List Val) (y : Val) : Option Bool := match y with
  | .ref _ => (match dat h 12 x, oall (dat h 11) vs with
    | some d, some ds => if SeqAt.shaped d = true ∧ SeqAt.shaped (.list ds) = true then some (ds.any fun z => PyData.eqv z d) else none
    | _, _ => none)
  | .tup _ => (match dat h 12 x, oall (dat h 11) vs with
    | some d, some ds => if SeqAt.shaped d = true ∧ SeqAt.shaped (.list ds) = true then some (ds.any fun z => PyData.eqv z d) else none
    | _, _ => none)
  | _ => none
@[simp] def inSq (h : Hs) (x y : Val) (vs : List Val) : Option Bool := if flat x = true ∧ vs.all flat = true then some (vs.any fun z => eqW z x) else inDeep h x vs y
@[simp] def inGen (h : Hs) (x y : Val) : Option Bool := match dctOf h y with
  | some kvs => (toKy x).map fun k => (dget kvs k).isSome
  | none => match seqOf h y with
    | some vs => inSq h x y vs
    | none => none
@[simp] def inF (h : Hs) (x y : Val) : Option Bool := match y with
  | .str s => (match x with
    | .str [c] => some (decide (c ∈ s))
    | _ => none)
  | y => inGen h x y
def ltL (a b : List Nat) : Bool := decide (a < b)
@[simp] def cmpF (op : CmpOp) (a b : Val) (h : Hs) : R Val := match op with
  | .Eq => (ofO (eqF h a b) h).bind fun k h => .ok (.bl k) h
  | .NotEq => (ofO (eqF h a b) h).bind fun k h => .ok (.bl (!k)) h
  | .Lt => (match a, b with
    | .int i, .int j => .ok (.bl (decide (i < j))) h
    | .str i, .str j => .ok (.bl (ltL i j)) h
    | _, _ => .stk)
  | .LtE => (match a, b with
    | .int i, .int j => .ok (.bl (decide (i ≤ j))) h
    | .str i, .str j => .ok (.bl (!ltL j i)) h
    | _, _ => .stk)
  | .Gt => (match a, b with
    | .int i, .int j => .ok (.bl (decide (j < i))) h
    | .str i, .str j => .ok (.bl (ltL j i)) h
    | _, _ => .stk)
  | .GtE => (match a, b with
    | .int i, .int j => .ok (.bl (decide (j ≤ i))) h
    | .str i, .str j => .ok (.bl (!ltL i j)) h
    | _, _ => .stk)
  | .Is => (match a, b with
    | a, .non => .ok (.bl (match a with | .non => true | _ => false)) h
    | _, _ => .stk)
  | .IsNot => (match a, b with
    | a, .non => .ok (.bl (match a with | .non => false | _ => true)) h
    | _, _ => .stk)
  | .In => (ofO (inF h a b) h).bind fun k h => .ok (.bl k) h
  | .NotIn => (ofO (inF h a b) h).bind fun k h => .ok (.bl (!k)) h
@[simp] def new (ob : Ob) (h : Hs) : R Val := .ok (.ref h.length) (h ++ [ob])
def rep {α : Type} (xs : List α) (k : Int) : List α := (List.replicate k.toNat xs).flatten
def bits (i : Int) : Nat := i.natAbs.log2
@[simp] def binF (op : Operator) (a b : Val) (h : Hs) : R Val := match op with
  | .Add => (match a, b with
    | .int i, .int j => .ok (.int (i + j)) h
    | .str i, .str j => if i.length + j.length ≤ lim then .ok (.str (i ++ j)) h else .stk
    | .tup i, .tup j => if i.length + j.length ≤ lim then .ok (.tup (i ++ j)) h else .stk
    | .ref l, .ref m => (match h[l]?, h[m]? with
      | some (.lst i), some (.lst j) => if i.length + j.length ≤ lim then new (.lst (i ++ j)) h else .stk
      | _, _ => .stk)
    | _, _ => .stk)
  | .Sub => (match a, b with
    | .int i, .int j => .ok (.int (i - j)) h
    | _, _ => .stk)
  | .Mult => (match a, b with
    | .int i, .int j => if bits i + bits j < 1000000 then .ok (.int (i * j)) h else .stk
    | .ref l, .int k => (match h[l]? with
      | some (.lst i) => if k < 1048576 ∧ -1048576 < k ∧ i.length * k.toNat ≤ lim then new (.lst (rep i k)) h else .stk
      | _ => .stk)
    | _, _ => .stk)
  | .FloorDiv => (match a, b with
    | .int i, .int j => if 0 < j ∧ bits j < 9000 then .ok (.int (i / j)) h else .stk
    | _, _ => .stk)
  | .Mod => (match a, b with
    | .int i, .int j => if 0 < j then .ok (.int (i % j)) h else .stk
    | _, _ => .stk)
  | .Pow => (match a, b with
    | .int i, .int j => if 0 ≤ j ∧ j ≤ 1000000 ∧ i.natAbs < 2 ^ 64 then .ok (.int (i ^ j.toNat)) h else .stk
    | _, _ => .stk)
  | .LShift => (match a, b with
    | .int i, .int j => if 0 ≤ j ∧ j ≤ 1000000 ∧ i.natAbs < 2 ^ 64 then .ok (.int (i * 2 ^ j.toNat)) h else .stk
    | _, _ => .stk)
  | .RShift => (match a, b with
    | .int i, .int j => if 0 ≤ j then .ok (.int (i / 2 ^ j.toNat)) h else .stk
    | _, _ => .stk)
  | .BitAnd => (match a, b with
    | .int i, .int j => .ok (.int (Builtin.bitAnd i j)) h
    | _, _ => .stk)
  | .BitOr => (match a, b with
    | .int i, .int j => .ok (.int (Builtin.bitOr i j)) h
    | _, _ => .stk)
  | .BitXor => (match a, b with
    | .int i, .int j => .ok (.int (Builtin.bitXor i j)) h
    | _, _ => .stk)
  | _ => .stk
/-- a op= b -/
@[simp] def ipF (op : Operator) (a b : Val) (h : Hs) : R Val := match op with
  | .Add => (match a, b with
    | .int i, .int j => .ok (.int (i + j)) h
    | .str i, .str j => if i.length + j.length ≤ lim then .ok (.str (i ++ j)) h else .stk
    | .ref l, .ref m => (match h[l]?, h[m]? with
      | some (.lst i), some (.lst j) => if i.length + j.length ≤ lim then .ok (.ref l) (h.set l (.lst (i ++ j))) else .stk
      | _, _ => .stk)
    | _, _ => .stk)
  | .Sub => (match a, b with
    | .int i, .int j => .ok (.int (i - j)) h
    | _, _ => .stk)
  | .Mult => (match a, b with
    | .int i, .int j => if (-(2 ^ 64) < i ∧ i < 2 ^ 64) ∨ (-(2 ^ 64) < j ∧ j < 2 ^ 64) then .ok (.int (i * j)) h else .stk
    | _, _ => .stk)
  | .FloorDiv => (match a, b with
    | .int i, .int j => if 0 < j ∧ bits j < 9000 then .ok (.int (i / j)) h else .stk
    | _, _ => .stk)
  | .Mod => (match a, b with
    | .int i, .int j => if 0 < j then .ok (.int (i % j)) h else .stk
    | _, _ => .stk)
  | .LShift => (match a, b with
    | .int i, .int j => if 0 ≤ j ∧ j ≤ 1000000 ∧ i.natAbs < 2 ^ 64 then .ok (.int (i * 2 ^ j.toNat)) h else .stk
    | _, _ => .stk)
  | .RShift => (match a, b with
    | .int i, .int j => if 0 ≤ j then .ok (.int (i / 2 ^ j.toNat)) h else .stk
    | _, _ => .stk)
  | .BitAnd => (match a, b with
    | .int i, .int j => .ok (.int (Builtin.bitAnd i j)) h
    | _, _ => .stk)
  | .BitOr => (match a, b with
    | .int i, .int j => .ok (.int (Builtin.bitOr i j)) h
    | _, _ => .stk)
  | .BitXor => (match a, b with
    | .int i, .int j => .ok (.int (Builtin.bitXor i j)) h
    | _, _ => .stk)
  | _ => .stk
@[simp] def truF (h : Hs) (v : Val) : Option Bool := match v with
  | .non => some false
  | .bl b => some b
  | .int i => some (i != 0)
  | .str s => if s.length ≤ lim then some (!s.isEmpty) else none
  | .tup vs => some (!vs.isEmpty)
  | .ref n => match h[n]? with
    | some (.lst vs) => some (!vs.isEmpty)
    | some (.frz vs) => some (!vs.isEmpty)
    | some (.dct kvs) => some (!kvs.isEmpty)
    | _ => none
def cutL {α : Type} (xs : List α) (lo hi : Option Int) : List α := (xs.drop (HT.sIx xs.length 0 lo)).take (HT.sIx xs.length xs.length hi - HT.sIx xs.length 0 lo)
@[simp] def slF (a : Val) (lo hi : Option Int) (h : Hs) : R Val := match a with
  | .str s => if s.length ≤ lim then .ok (.str (cutL s lo hi)) h else .stk
  | .tup vs => .ok (.tup (cutL vs lo hi)) h
  | .ref n => (match h[n]? with
    | some (.lst vs) => new (.lst (cutL vs lo hi)) h
    | some (.frz vs) => new (.lst (cutL vs lo hi)) h
    | _ => .stk)
  | _ => .stk
@[simp] def ixL (vs : List Val) (b : Val) (h : Hs) : R Val := match b with
  | .int i => ofO (atI vs i) h
  | _ => .stk
@[simp] def ixF (a b : Val) (h : Hs) : R Val := match a, b with
  | .str s, .int i => if s.length ≤ lim then (ofO (atI s i) h).bind fun c h => .ok (.str [c]) h else .stk
  | .tup vs, .int i => ofO (atI vs i) h
  | .ref n, b => (match h[n]? with
    | some (.lst vs) => ixL vs b h
    | some (.frz vs) => ixL vs b h
    | some (.dct kvs) => (match toKy b with
      | some k => ofO (dget kvs k) h
      | none => .stk)
    | _ => .stk)
  | _, _ => .stk
/-- o[i] of o[i] op= e -/
@[simp] def gtF (a b : Val) (h : Hs) : R Val := match a with
  | .ref n => (match h[n]? with
    | some (.lst vs) => ixL vs b h
    | some (.dct kvs) => (match toKy b with
      | some k => ofO (dget kvs k) h
      | none => .stk)
    | _ => .stk)
  | _ => .stk
/-- o[i] = v -/
@[simp] def setF (o i v : Val) (h : Hs) : Option Hs := match o with
  | .ref n => (match h[n]? with
    | some (.lst vs) => (match i with
      | .int k => (match ixN vs.length k with
        | some j => some (h.set n (.lst (vs.set j v)))
        | none => none)
      | _ => none)
    | some (.dct kvs) => (match toKy i with
      | some k => if kvs.length < lim then some (h.set n (.dct (dput kvs k v))) else none
      | none => none)
    | _ => none)
  | _ => none
@[simp] def delF (o i : Val) (h : Hs) : Option Hs := match o with
  | .ref n => (match h[n]? with
    | some (.dct kvs) => (match toKy i with
      | some k => if (dget kvs k).isSome then some (h.set n (.dct (ddel kvs k))) else none
      | none => none)
    | _ => none)
  | _ => none
@[simp] def fget (fs : List (Nat × Val)) (f : Nat) : Option Val := fs.lookup f
@[simp] def fput (f : Nat) (v : Val) : List (Nat × Val) → List (Nat × Val)
  | [] => [(f, v)]
  | (g, x) :: r => if g = f then (g, v) :: r else (g, x) :: fput f v r
@[simp] def fldF (o : Val) (f : Nat) (h : Hs) : R Val := match o with
  | .ref n => (match h[n]? with
    | some (.ins _ fs) => ofO (fget fs f) h
    | _ => .stk)
  | _ => .stk
@[simp] def clsF (o : Val) (h : Hs) : Option Nat := match o with
  | .ref n => (match h[n]? with
    | some (.ins c _) => some c
    | _ => none)
  | _ => none
@[simp] def setFld (ok : Nat → Nat → Bool) (o : Val) (f : Nat) (v : Val) (h : Hs) : Option Hs := match o with
  | .ref n => (match h[n]? with
    | some (.ins c fs) => if fs.length < 1000 ∧ ok c f = true then some (h.set n (.ins c (fput f v fs))) else none
    | _ => none)
  | _ => none
@[simp] def isInts : List Val → Option (List Int)
  | [] => some []
  | .int i :: r => (isInts r).map (i :: ·)
  | _ => none
@[simp] def isStrs : List Val → Option (List (List Nat))
  | [] => some []
  | .str i :: r => (isStrs r).map (i :: ·)
  | _ => none
/-- ints, ascending -/
def insI (x : Int) : List Int → List Int
  | [] => [x]
  | y :: r => if x ≤ y then x :: y :: r else y :: insI x r
def srtI : List Int → List Int
  | [] => []
  | x :: r => insI x (srtI r)
def numS (i : Int) : List Nat := (Str.ofString (toString i)).cps.toList
@[simp] def primF (p : Prim) (vs : List Val) (h : Hs) : R Val := match p, vs with
  | .len, [.str s] => if s.length ≤ lim then .ok (.int s.length) h else .stk
  | .len, [v] => (match seqOf h v with
    | some ws => .ok (.int ws.length) h
    | none => (match dctOf h v with
      | some kvs => .ok (.int kvs.length) h
      | none => .stk))
  | .int, [.int i] => .ok (.int i) h
  | .int, [.bl b] => .ok (.int (if b then 1 else 0)) h
  | .int, [.str s] => (match intText? ⟨s.toArray⟩ with
    | some n => if s.length ≤ 640 then .ok (.int n) h else .stk
    | none => .stk)
  | .abs, [.int i] => .ok (.int (if i < 0 then -i else i)) h
  | .min, [.int i, .int j] => .ok (.int (if j < i then j else i)) h
  | .max, [.int i, .int j] => .ok (.int (if j > i then j else i)) h
  | .str, [.int i] => if bits i < 1920 then .ok (.str (numS i)) h else .stk
  | .tuple, [v] => ofO ((seqOf h v).map .tup) h
  | .list, [v] => (match seqOf h v with
    | some ws => new (.lst ws) h
    | none => .stk)
  | .sum, [.ref n] => (match seqOf h (.ref n) with
    | some ws => (match isInts ws with
      | some ns => .ok (.int ns.sum) h
      | none => .stk)
    | none => .stk)
  | .sorted, [.ref n] => (match seqOf h (.ref n) with
    | some ws => (match isInts ws with
      | some ns => if ns.length < 64 then new (.lst ((srtI ns).map .int)) h else .stk
      | none => .stk)
    | none => (match dctOf h (.ref n) with
      | some kvs => (match isInts (kvs.map fun q => ofKy q.1) with
        | some ns => if ns.length < 64 then new (.lst ((srtI ns).map .int)) h else .stk
        | none => .stk)
      | none => .stk))
  | .ord, [.str [c]] => .ok (.int c) h
  | _, _ => .stk
def idxF (x : Val) : List Val → Nat → Option Nat
  | [], _ => none
  | v :: vs, i => if eqW v x = true then some i else idxF x vs (i + 1)
@[simp] def pmF (p : PM) (o : Val) (vs : List Val) (h : Hs) : R Val := match p, o, vs with
  | .append, .ref n, [v] => (match h[n]? with
    | some (.lst ws) => if ws.length < lim then .ok .non (h.set n (.lst (ws ++ [v]))) else .stk
    | _ => .stk)
  | .extend, .ref n, [.ref m] => (match h[n]?, h[m]? with
    | some (.lst ws), some (.lst us) => if ws.length + us.length ≤ lim then .ok .non (h.set n (.lst (ws ++ us))) else .stk
    | _, _ => .stk)
  | .pop, .ref n, [] => (match h[n]? with
    | some (.lst ws) => (match ws.getLast? with
      | some v => .ok v (h.set n (.lst ws.dropLast))
      | none => .stk)
    | _ => .stk)
  | .find, .str s, [.str u] => .ok (.int (Txt.find ⟨s.toArray⟩ ⟨u.toArray⟩)) h
  | .startswith, .str s, [.str u] => .ok (.bl (Txt.startswith ⟨s.toArray⟩ ⟨u.toArray⟩)) h
  | .split, .str s, [.str u] => if u.length ≠ 0 ∧ s.length + 2 ≤ lim ∧ u.all (· < 256) = true then new (.lst ((TL.spl u 0 [] s).map .str)) h else .stk
  | .strip, .str s, [] => if s.length ≤ lim then .ok (.str (Txt.strip ⟨s.toArray⟩).cps.toList) h else .stk
  | .stripC, .str s, [.str u] => if s.length ≤ lim then .ok (.str (Txt.stripChars ⟨s.toArray⟩ ⟨u.toArray⟩).cps.toList) h else .stk
  | .lower, .str s, [] => if s.length ≤ 5592405 then .ok (.str (Txt.lower ⟨s.toArray⟩).cps.toList) h else .stk
  | .upper, .str s, [] => if s.length ≤ 5592405 then .ok (.str (Txt.upper ⟨s.toArray⟩).cps.toList) h else .stk
  | .join, .str s, [.ref n] => (match seqOf h (.ref n) with
    | some ws => (match isStrs ws with
      | some ts => if (ts.map List.length).sum + ts.length * s.length ≤ lim then .ok (.str (TL.joinL s ts)) h else .stk
      | none => .stk)
    | none => .stk)
  | .index, .ref n, [x] => (match seqOf h (.ref n) with
    | some ws => if flat x = true ∧ ws.all flat = true then (ofO (idxF x ws 0) h).bind fun i h => .ok (.int i) h else .stk
    | none => .stk)
  | .get, .ref n, [x] => (match h[n]?, toKy x with
    | some (.dct kvs), some k => .ok ((dget kvs k).getD .non) h
    | _, _ => .stk)
  | .get2, .ref n, [x, d] => (match h[n]?, toKy x with
    | some (.dct kvs), some k => .ok ((dget kvs k).getD d) h
    | _, _ => .stk)
  | .dpop, .ref n, [x] => (match h[n]?, toKy x with
    | some (.dct kvs), some k => (match dget kvs k with
      | some v => .ok v (h.set n (.dct (ddel kvs k)))
      | none => .stk)
    | _, _ => .stk)
  | _, _, _ => .stk

/-- the receiver of a built-in method is of its type -/
@[simp] def tyOkB (h : Hs) (p : PM) (v : Val) : Bool := match p, v with
  | .append, .ref n => (match h[n]? with | some (.lst _) => true | _ => false)
  | .extend, .ref n => (match h[n]? with | some (.lst _) => true | _ => false)
  | .pop, .ref n => (match h[n]? with | some (.lst _) => true | _ => false)
  | .index, .ref n => (match h[n]? with | some (.lst _) => true | some (.frz _) => true | _ => false)
  | .get, .ref n => (match h[n]? with | some (.dct _) => true | _ => false)
  | .get2, .ref n => (match h[n]? with | some (.dct _) => true | _ => false)
  | .dpop, .ref n => (match h[n]? with | some (.dct _) => true | _ => false)
  | .append, _ => false
  | .extend, _ => false
  | .pop, _ => false
  | .index, _ => false
  | .get, _ => false
  | .get2, _ => false
  | .dpop, _ => false
  | _, .str _ => true
  | _, _ => false
/-- g.index(x), g a written tuple of texts -/
@[simp] def gixF (g x : Val) (h : Hs) : R Val := match g, x with
  | .tup vs, .str s => (match isStrs vs with
    | some ts => (match ts.findIdx? (fun t => decide (t = s)) with
      | some j => .ok (.int (j : Nat)) h
      | none => .stk)
    | none => .stk)
  | .tup vs, .int i => (match isInts vs with
    | some ns => if i ∈ ns then .ok (.int (ns.idxOf i : Nat)) h else .stk
    | none => .stk)
  | _, _ => .stk

/-- isinstance -/
@[simp] def isiF (v : Val) (t : Ty) (h : Hs) : Option Bool := match v with
  | .non => some false
  | .bl _ => some (decide (t = .bool ∨ t = .int))
  | .int _ => some (decide (t = .int))
  | .str _ => some (decide (t = .str))
  | .tup _ => some (decide (t = .tuple))
  | .ref n => match h[n]? with
    | some (.lst _) => some (decide (t = .list))
    | some (.frz _) => some (decide (t = .list))
    | some (.dct _) => some false
    | _ => none

/-! ### the evaluator -/
structure Calls where
  f : Nat → List Val → Hs → R Val
  i : Nat → List Val → Hs → R Val
  meth : Nat → Nat → Option Nat
  init : Nat → Option Nat
  glob : Nat → Option Val
  fldok : Nat → Nat → Bool
@[simp] def wipeS (st : Sl) : List Nat → Sl
  | [] => st
  | v :: vs => (wipeS st vs).set v none
/-- what is walked: values; a list that must stand still -/
inductive Src where
  | vals (vs : List Val)
  | lst (n : Nat) (vs : List Val)
  | enu (n : Nat) (vs : List Val)
def Src.ok (h : Hs) : Src → Bool
  | .vals _ => true
  | .lst n vs => match h[n]? with
    | some (.lst ws) => Val.beqs ws vs
    | some (.frz ws) => Val.beqs ws vs
    | _ => false
  | .enu n vs => match h[n]? with
    | some (.lst ws) => Val.beqs ws vs
    | some (.frz ws) => Val.beqs ws vs
    | _ => false
def enumV : Nat → List Val → List Val
  | _, [] => []
  | i, v :: vs => .tup [.int i, v] :: enumV (i + 1) vs
@[simp] def Src.items : Src → List Val
  | .vals vs => vs
  | .lst _ vs => vs
  | .enu _ vs => enumV 0 vs
def rangeV (lo : Int) (c : Int) : Nat → List Val
  | 0 => []
  | n + 1 => .int lo :: rangeV (lo + c) c n
@[simp] def setTs : List Nat → List Val → Sl → Option Sl
  | [], [], st => some st
  | j :: js, v :: vs, st => setTs js vs (st.set j (some v))
  | _, _, _ => none
@[simp] def setT (t : Tg) (v : Val) (st : Sl) : Option Sl := match t with
  | .nm i => some (st.set i (some v))
  | .tup js => match v with
    | .tup vs => setTs js vs st
    | _ => none
def hlim : Int := 2 ^ 62
/-- no exception may leave a block -/
def noX {α : Type} (r : R α) : R α := match r with
  | .ok a h => .ok a h
  | _ => .stk
@[simp] theorem noX_ok {α : Type} (a : α) (h : Hs) : noX (.ok a h) = .ok a h := rfl
@[simp] theorem noX_stk {α : Type} : noX (.stk : R α) = .stk := rfl
def compV (step : Val → Hs → R (Option Val)) (src : Src) (n : Nat) : List Val → Hs → R Unit
  | [], h => if src.ok h then .ok () h else .stk
  | v :: vs, h => if src.ok h then (noX (step v h)).bind fun o h1 => match o with
    | none => compV step src n vs h1
    | some y => match h1[n]? with
      | some (.lst acc) => if acc.length < lim then compV step src n vs (h1.set n (.lst (acc ++ [y]))) else .stk
      | _ => .stk
    else .stk
/-! what follows a value: named, so that nothing is looked at before its time -/
@[simp] def seq2 {α β γ : Type} (f : Hs → R β) (g : α → β → Hs → R γ) (a : α) (h : Hs) : R γ := (f h).bind (g a)
@[simp] def negF (x : Val) (h : Hs) : R Val := match x with
  | .int i => .ok (.int (-i)) h
  | _ => .stk
@[simp] def truK {β : Type} (f : Bool → Hs → R β) (x : Val) (h : Hs) : R β := (ofO (truF h x) h).bind f
@[simp] def truG (x : Val) (h : Hs) : R Bool := ofO (truF h x) h
@[simp] def notK (k : Bool) (h : Hs) : R Val := .ok (.bl (!k)) h
@[simp] def blK (k : Bool) (h : Hs) : R Val := .ok (.bl k) h
@[simp] def chainK (op2 : CmpOp) (fc : Hs → R Val) (y : Val) (k : Val) (h : Hs) : R Val := match k with
  | .bl true => (fc h).bind (cmpF op2 y)
  | .bl false => .ok (.bl false) h
  | _ => .stk
@[simp] def chainF (op op2 : CmpOp) (fc : Hs → R Val) (x y : Val) (h : Hs) : R Val := (cmpF op x y h).bind (chainK op2 fc y)
@[simp] def chain3K (op2 op3 : CmpOp) (fc fd : Hs → R Val) (y : Val) (k : Val) (h : Hs) : R Val := match k with
  | .bl true => (fc h).bind (chainF op2 op3 fd y)
  | .bl false => .ok (.bl false) h
  | _ => .stk
@[simp] def chain3F (op op2 op3 : CmpOp) (fc fd : Hs → R Val) (x y : Val) (h : Hs) : R Val := (cmpF op x y h).bind (chain3K op2 op3 fc fd y)
@[simp] def andB (fb : Hs → R Val) (x : Val) (k : Bool) (h : Hs) : R Val := if k = true then fb h else .ok x h
@[simp] def orB (fb : Hs → R Val) (x : Val) (k : Bool) (h : Hs) : R Val := if k = true then .ok x h else fb h
@[simp] def andK (fb : Hs → R Val) (x : Val) (h : Hs) : R Val := (ofO (truF h x) h).bind (andB fb x)
@[simp] def orK (fb : Hs → R Val) (x : Val) (h : Hs) : R Val := (ofO (truF h x) h).bind (orB fb x)
@[simp] def ifB {α : Type} (fa fb : Hs → R α) (k : Bool) (h : Hs) : R α := if k = true then fa h else fb h
@[simp] def tupF (vs : List Val) (h : Hs) : R Val := if vs.length ≤ lim then .ok (.tup vs) h else .stk
@[simp] def lstF (vs : List Val) (h : Hs) : R Val := if vs.length ≤ lim then new (.lst vs) h else .stk
@[simp] def dicF (p : Nat) (vs : List Val) (h1 : Hs) : R Val := match h1[p]?, pairsOf vs with
  | some (.dct []), some kvs => if kvs.length ≤ 15 then .ok (.ref p) (h1.set p (.dct (dmerge kvs))) else .stk
  | _, _ => .stk
@[simp] def newK (p : Nat) (x : Val) (h2 : Hs) : R Val := match x with
  | .non => .ok (.ref p) h2
  | _ => .stk
@[simp] def newF (C : Calls) (c : Nat) (vs : List Val) (h : Hs) : R Val := match C.init c with
  | some i => (C.i i (.ref h.length :: vs) (h ++ [.ins c []])).bind (newK h.length)
  | none => .stk
@[simp] def methK (C : Calls) (i n : Nat) (vs : List Val) (h : Hs) : R Val := C.f i (.ref n :: vs) h
@[simp] def methF (C : Calls) (m : Nat) (fes : Hs → R (List Val)) (x : Val) (h : Hs) : R Val := match x with
  | .ref n => (match h[n]? with
    | some (.ins c fs) => (match C.meth c m with
      | some i => if (fget fs m).isNone then (fes h).bind (methK C i n) else .stk
      | none => .stk)
    | _ => .stk)
  | _ => .stk
@[simp] def pmG (p : PM) (fes : Hs → R (List Val)) (x : Val) (h : Hs) : R Val := if tyOkB h p x = true then (fes h).bind (pmF p x) else .stk
@[simp] def fldG (f : Nat) (x : Val) (h : Hs) : R Val := fldF x f h
@[simp] def slK (fh : Hs → R (Option Int)) (x : Val) (l : Option Int) (h : Hs) : R Val := (fh h).bind (slF x l)
@[simp] def slG (fl fh : Hs → R (Option Int)) (x : Val) (h : Hs) : R Val := (fl h).bind (slK fh x)
@[simp] def someK (y : Val) (h : Hs) : R (Option Val) := .ok (some y) h
@[simp] def stepK (fe : Hs → R Val) (k : Bool) (h : Hs) : R (Option Val) := if k = true then (fe h).bind someK else .ok none h
@[simp] def stepG (tg : Tg) (fc : Sl → Hs → R Bool) (fe : Sl → Hs → R Val) (st : Sl) (v : Val) (h : Hs) : R (Option Val) := match setT tg v st with
  | some st1 => (fc st1 h).bind (stepK (fe st1))
  | none => .stk
@[simp] def lcK (p : Nat) (_ : Unit) (h2 : Hs) : R Val := .ok (.ref p) h2
@[simp] def lcG (step : Val → Hs → R (Option Val)) (src : Src) (h : Hs) : R Val := (compV step src h.length src.items (h ++ [.lst []])).bind (lcK h.length)
@[simp] def gixG (C : Calls) (k : Nat) (x : Val) (h : Hs) : R Val := match C.glob k with
  | some g => gixF g x h
  | none => .stk
@[simp] def isiG (t : Ty) (x : Val) (h : Hs) : R Val := (ofO (isiF x t h) h).bind blK
@[simp] def consK (x : Val) (xs : List Val) (h : Hs) : R (List Val) := .ok (x :: xs) h
@[simp] def consG (f : Hs → R (List Val)) (x : Val) (h : Hs) : R (List Val) := (f h).bind (consK x)
@[simp] def partF (x : Val) (h : Hs) : R (Option Int) := match x with
  | .int i => .ok (some i) h
  | _ => .stk
@[simp] def srcF (x : Val) (h : Hs) : R Src := match x with
  | .tup vs => .ok (.vals vs) h
  | .str s => .ok (.vals (s.map fun c => .str [c])) h
  | .ref n => (match h[n]? with
    | some (.lst vs) => .ok (.lst n vs) h
    | some (.frz vs) => .ok (.lst n vs) h
    | _ => .stk)
  | _ => .stk
@[simp] def rng1F (x : Val) (h : Hs) : R Src := match x with
  | .int i => if -hlim ≤ i ∧ i < hlim then .ok (.vals (rangeV 0 1 i.toNat)) h else .stk
  | _ => .stk
@[simp] def rng2F (x y : Val) (h : Hs) : R Src := match x, y with
  | .int i, .int j => if -hlim ≤ i ∧ i < hlim ∧ -hlim ≤ j ∧ j < hlim then .ok (.vals (rangeV i 1 (j - i).toNat)) h else .stk
  | _, _ => .stk
@[simp] def rng3F (x y z : Val) (h : Hs) : R Src := match x, y, z with
  | .int i, .int j, .int (-1) => if -hlim ≤ i ∧ i < hlim ∧ -hlim ≤ j ∧ j < hlim then .ok (.vals (rangeV i (-1) (i - j).toNat)) h else .stk
  | _, _, _ => .stk
@[simp] def rng3K (fc : Hs → R Val) (x y : Val) (h : Hs) : R Src := (fc h).bind (rng3F x y)
@[simp] def enuF (x : Val) (h : Hs) : R Src := match x with
  | .ref n => (match h[n]? with
    | some (.lst vs) => .ok (.enu n vs) h
    | some (.frz vs) => .ok (.enu n vs) h
    | _ => .stk)
  | .tup vs => .ok (.vals (enumV 0 vs)) h
  | _ => .stk
@[simp] def varF (o : Option (Option Val)) (h : Hs) : R Val := match o with
  | some (some v) => .ok v h
  | _ => .stk
mutual
def ev (C : Calls) : E → Sl → Hs → R Val
  | .var i, st, h => varF st[i]? h
  | .non, _, h => .ok .non h
  | .tt b, _, h => .ok (.bl b) h
  | .int i, _, h => .ok (.int i) h
  | .str s, _, h => .ok (.str s) h
  | .glob k, _, h => ofO (C.glob k) h
  | .bin op a b, st, h => (ev C a st h).bind (seq2 (ev C b st) (binF op))
  | .neg a, st, h => (ev C a st h).bind negF
  | .not a, st, h => (ev C a st h).bind (truK notK)
  | .cmp op a b, st, h => (ev C a st h).bind (seq2 (ev C b st) (cmpF op))
  | .chain op op2 a b c, st, h => (ev C a st h).bind (seq2 (ev C b st) (chainF op op2 (ev C c st)))
  | .chain3 op op2 op3 a b c d, st, h => (ev C a st h).bind (seq2 (ev C b st) (chain3F op op2 op3 (ev C c st) (ev C d st)))
  | .and a b, st, h => (ev C a st h).bind (andK (ev C b st))
  | .or a b, st, h => (ev C a st h).bind (orK (ev C b st))
  | .ife c a b, st, h => (ev C c st h).bind (truK (ifB (ev C a st) (ev C b st)))
  | .tup es, st, h => (evs C es st h).bind tupF
  | .lst es, st, h => (evs C es st h).bind lstF
  | .dic es, st, h => (evs C es st (h ++ [.dct []])).bind (dicF h.length)
  | .call f es, st, h => (evs C es st h).bind (C.f f)
  | .new c es, st, h => (evs C es st h).bind (newF C c)
  | .meth o m es, st, h => (ev C o st h).bind (methF C m (evs C es st))
  | .prim p es, st, h => (evs C es st h).bind (primF p)
  | .pm p o es, st, h => (ev C o st h).bind (pmG p (evs C es st))
  | .fld o f, st, h => (ev C o st h).bind (fldG f)
  | .ix a b, st, h => (ev C a st h).bind (seq2 (ev C b st) ixF)
  | .sl a lo hi, st, h => (ev C a st h).bind (slG (evo C lo st) (evo C hi st))
  | .lc elt tg it cond own, st, h => (evi C it st h).bind (lcG (stepG tg (etc C cond) (ev C elt) (wipeS st (own.map (·.2)))))
  | .gix k e, st, h => (ev C e st h).bind (gixG C k)
  | .isi e t, st, h => (ev C e st h).bind (isiG t)
def evs (C : Calls) : Es → Sl → Hs → R (List Val)
  | .nil, _, h => .ok [] h
  | .cons e es, st, h => (ev C e st h).bind (consG (evs C es st))
def evo (C : Calls) : Eo → Sl → Hs → R (Option Int)
  | .none, _, h => .ok none h
  | .some e, st, h => (ev C e st h).bind partF
def etc (C : Calls) : Eo → Sl → Hs → R Bool
  | .none, _, h => .ok true h
  | .some e, st, h => (ev C e st h).bind truG
def evi (C : Calls) : I → Sl → Hs → R Src
  | .val e, st, h => (ev C e st h).bind srcF
  | .rng1 a, st, h => (ev C a st h).bind rng1F
  | .rng2 a b, st, h => (ev C a st h).bind (seq2 (ev C b st) rng2F)
  | .rng3 a b c, st, h => (ev C a st h).bind (seq2 (ev C b st) (rng3K (ev C c st)))
  | .enu e, st, h => (ev C e st h).bind enuF
end
section
variable (C : Calls) (st : Sl) (h : Hs)
@[simp] theorem q_ev_var (i : Nat) : ev C (E.var i) st h = varF st[i]? h := rfl
@[simp] theorem q_ev_non : ev C (E.non) st h = .ok .non h := rfl
@[simp] theorem q_ev_tt (b : Bool) : ev C (E.tt b) st h = .ok (.bl b) h := rfl
@[simp] theorem q_ev_int (i : Int) : ev C (E.int i) st h = .ok (.int i) h := rfl
@[simp] theorem q_ev_str (s : List Nat) : ev C (E.str s) st h = .ok (.str s) h := rfl
@[simp] theorem q_ev_glob (k : Nat) : ev C (E.glob k) st h = ofO (C.glob k) h := rfl
@[simp] theorem q_ev_bin (op : Operator) (a : E) (b : E) : ev C (E.bin op a b) st h = (ev C a st h).bind (seq2 (ev C b st) (binF op)) := rfl
@[simp] theorem q_ev_neg (a : E) : ev C (E.neg a) st h = (ev C a st h).bind negF := rfl
@[simp] theorem q_ev_not (a : E) : ev C (E.not a) st h = (ev C a st h).bind (truK notK) := rfl
@[simp] theorem q_ev_cmp (op : CmpOp) (a : E) (b : E) : ev C (E.cmp op a b) st h = (ev C a st h).bind (seq2 (ev C b st) (cmpF op)) := rfl
@[simp] theorem q_ev_chain (op : CmpOp) (op2 : CmpOp) (a : E) (b : E) (c : E) : ev C (E.chain op op2 a b c) st h = (ev C a st h).bind (seq2 (ev C b st) (chainF op op2 (ev C c st))) := rfl
@[simp] theorem q_ev_chain3 (op op2 op3 : CmpOp) (a b c d : E) : ev C (E.chain3 op op2 op3 a b c d) st h = (ev C a st h).bind (seq2 (ev C b st) (chain3F op op2 op3 (ev C c st) (ev C d st))) := rfl
@[simp] theorem q_ev_and (a : E) (b : E) : ev C (E.and a b) st h = (ev C a st h).bind (andK (ev C b st)) := rfl
@[simp] theorem q_ev_or (a : E) (b : E) : ev C (E.or a b) st h = (ev C a st h).bind (orK (ev C b st)) := rfl
@[simp] theorem q_ev_ife (c : E) (a : E) (b : E) : ev C (E.ife c a b) st h = (ev C c st h).bind (truK (ifB (ev C a st) (ev C b st))) := rfl
@[simp] theorem q_ev_tup (es : Es) : ev C (E.tup es) st h = (evs C es st h).bind tupF := rfl
@[simp] theorem q_ev_lst (es : Es) : ev C (E.lst es) st h = (evs C es st h).bind lstF := rfl
@[simp] theorem q_ev_dic (es : Es) : ev C (E.dic es) st h = (evs C es st (h ++ [.dct []])).bind (dicF h.length) := rfl
@[simp] theorem q_ev_call (f : Nat) (es : Es) : ev C (E.call f es) st h = (evs C es st h).bind (C.f f) := rfl
@[simp] theorem q_ev_new (c : Nat) (es : Es) : ev C (E.new c es) st h = (evs C es st h).bind (newF C c) := rfl
@[simp] theorem q_ev_meth (o : E) (m : Nat) (es : Es) : ev C (E.meth o m es) st h = (ev C o st h).bind (methF C m (evs C es st)) := rfl
@[simp] theorem q_ev_prim (p : Prim) (es : Es) : ev C (E.prim p es) st h = (evs C es st h).bind (primF p) := rfl
@[simp] theorem q_ev_pm (p : PM) (o : E) (es : Es) : ev C (E.pm p o es) st h = (ev C o st h).bind (pmG p (evs C es st)) := rfl
@[simp] theorem q_ev_fld (o : E) (f : Nat) : ev C (E.fld o f) st h = (ev C o st h).bind (fldG f) := rfl
@[simp] theorem q_ev_ix (a : E) (b : E) : ev C (E.ix a b) st h = (ev C a st h).bind (seq2 (ev C b st) ixF) := rfl
@[simp] theorem q_ev_sl (a : E) (lo : Eo) (hi : Eo) : ev C (E.sl a lo hi) st h = (ev C a st h).bind (slG (evo C lo st) (evo C hi st)) := rfl
@[simp] theorem q_ev_lc (elt : E) (tg : Tg) (it : I) (cond : Eo) (own : List (Str × Nat)) : ev C (E.lc elt tg it cond own) st h = (evi C it st h).bind (lcG (stepG tg (etc C cond) (ev C elt) (wipeS st (own.map (·.2))))) := rfl
@[simp] theorem q_ev_gix (k : Nat) (e : E) : ev C (E.gix k e) st h = (ev C e st h).bind (gixG C k) := rfl
@[simp] theorem q_ev_isi (e : E) (t : Ty) : ev C (E.isi e t) st h = (ev C e st h).bind (isiG t) := rfl
@[simp] theorem q_evs_nil : evs C (Es.nil) st h = .ok [] h := rfl
@[simp] theorem q_evs_cons (e : E) (es : Es) : evs C (Es.cons e es) st h = (ev C e st h).bind (consG (evs C es st)) := rfl
@[simp] theorem q_evo_none : evo C (Eo.none) st h = .ok none h := rfl
@[simp] theorem q_evo_some (e : E) : evo C (Eo.some e) st h = (ev C e st h).bind partF := rfl
@[simp] theorem q_etc_none : etc C (Eo.none) st h = .ok true h := rfl
@[simp] theorem q_etc_some (e : E) : etc C (Eo.some e) st h = (ev C e st h).bind truG := rfl
@[simp] theorem q_evi_val (e : E) : evi C (I.val e) st h = (ev C e st h).bind srcF := rfl
@[simp] theorem q_evi_rng1 (a : E) : evi C (I.rng1 a) st h = (ev C a st h).bind rng1F := rfl
@[simp] theorem q_evi_rng2 (a : E) (b : E) : evi C (I.rng2 a b) st h = (ev C a st h).bind (seq2 (ev C b st) rng2F) := rfl
@[simp] theorem q_evi_rng3 (a : E) (b : E) (c : E) : evi C (I.rng3 a b c) st h = (ev C a st h).bind (seq2 (ev C b st) (rng3K (ev C c st))) := rfl
@[simp] theorem q_evi_enu (e : E) : evi C (I.enu e) st h = (ev C e st h).bind enuF := rfl
end
/-- a test -/
@[simp] def et (C : Calls) (e : E) (st : Sl) (h : Hs) : R Bool := (ev C e st h).bind truG
theorem R.bind_assoc {α β γ : Type} (r : R α) (f : α → Hs → R β) (g : β → Hs → R γ) : (r.bind f).bind g = r.bind fun a h => (f a h).bind g := by cases r <;> rfl
theorem bind_ext {α β : Type} {r : R α} {f g : α → Hs → R β} (e : ∀ a h, f a h = g a h) : r.bind f = r.bind g := by cases r <;> first | exact e _ _ | rfl
@[simp] def tNotK (k : Bool) (h : Hs) : R Bool := .ok (!k) h
@[simp] def tAndK (fb : Hs → R Bool) (k : Bool) (h : Hs) : R Bool := if k = true then fb h else .ok false h
@[simp] def tOrK (fb : Hs → R Bool) (k : Bool) (h : Hs) : R Bool := if k = true then .ok true h else fb h
@[simp] def tBl (k : Val) (h : Hs) : R Bool := match k with
  | .bl k => .ok k h
  | _ => .stk
@[simp] def tChainK (op2 : CmpOp) (fc : Hs → R Val) (y : Val) (k : Val) (h : Hs) : R Bool := match k with
  | .bl true => (fc h).bind fun z h => (cmpF op2 y z h).bind tBl
  | .bl false => .ok false h
  | _ => .stk
section
variable (C : Calls) (st : Sl) (h : Hs)
theorem et_not (a : E) : et C (.not a) st h = (et C a st h).bind tNotK := by
  show ((ev C a st h).bind (truK notK)).bind _ = ((ev C a st h).bind _).bind _
  rw [R.bind_assoc, R.bind_assoc]
  refine bind_ext fun x h1 => ?_
  show ((ofO (truF h1 x) h1).bind notK).bind truG = (ofO (truF h1 x) h1).bind tNotK
  cases truF h1 x <;> rfl
theorem et_and (a b : E) : et C (.and a b) st h = (et C a st h).bind (tAndK (et C b st)) := by
  show ((ev C a st h).bind (andK (ev C b st))).bind _ = ((ev C a st h).bind _).bind _
  rw [R.bind_assoc, R.bind_assoc]
  refine bind_ext fun x h1 => ?_
  show ((ofO (truF h1 x) h1).bind (andB (ev C b st) x)).bind truG = (ofO (truF h1 x) h1).bind _
  cases q : truF h1 x with
  | none => rfl
  | some k =>
    cases k with
    | true => rfl
    | false =>
      show ofO (truF h1 x) h1 = _
      rw [q]
      rfl
theorem et_or (a b : E) : et C (.or a b) st h = (et C a st h).bind (tOrK (et C b st)) := by
  show ((ev C a st h).bind (orK (ev C b st))).bind _ = ((ev C a st h).bind _).bind _
  rw [R.bind_assoc, R.bind_assoc]
  refine bind_ext fun x h1 => ?_
  show ((ofO (truF h1 x) h1).bind (orB (ev C b st) x)).bind truG = (ofO (truF h1 x) h1).bind _
  cases q : truF h1 x with
  | none => rfl
  | some k =>
    cases k with
    | false => rfl
    | true =>
      show ofO (truF h1 x) h1 = _
      rw [q]
      rfl
theorem ev_ife (c a b : E) : ev C (.ife c a b) st h = (et C c st h).bind (ifB (ev C a st) (ev C b st)) := by
  show (ev C c st h).bind _ = ((ev C c st h).bind _).bind _
  rw [R.bind_assoc]
  exact bind_ext fun x h1 => rfl
theorem et_ife (c a b : E) : et C (.ife c a b) st h = (et C c st h).bind (ifB (et C a st) (et C b st)) := by
  show (ev C (.ife c a b) st h).bind _ = _
  rw [ev_ife, R.bind_assoc]
  refine bind_ext fun k h1 => ?_
  cases k <;> rfl
theorem cmp_bl (op : CmpOp) (x y : Val) : (cmpF op x y h).bind truG = (cmpF op x y h).bind tBl := by
  have key : ∀ (v : Val) (h1 : Hs), cmpF op x y h = .ok v h1 → ∃ k, v = .bl k := by
    intro v h1 e
    unfold cmpF at e
    repeat' split at e
    all_goals first
      | (cases e; exact ⟨_, rfl⟩)
      | (cases e; done)
      | (revert e
         generalize ofO _ h = r
         intro e
         cases r <;> first
           | (cases e; exact ⟨_, rfl⟩)
           | (cases e; done))
  cases r : cmpF op x y h with
  | ok v h1 =>
    obtain ⟨k, rfl⟩ := key v h1 r
    rfl
  | exc _ _ _ => rfl
  | stk => rfl
@[simp] def tCmpF (op : CmpOp) (x y : Val) (h : Hs) : R Bool := (cmpF op x y h).bind tBl
theorem et_cmp (op : CmpOp) (a b : E) : et C (.cmp op a b) st h = (ev C a st h).bind (seq2 (ev C b st) (tCmpF op)) := by
  show ((ev C a st h).bind (seq2 (ev C b st) (cmpF op))).bind _ = _
  rw [R.bind_assoc]
  refine bind_ext fun x h1 => ?_
  show ((ev C b st h1).bind (cmpF op x)).bind _ = (ev C b st h1).bind _
  rw [R.bind_assoc]
  exact bind_ext fun y h2 => cmp_bl h2 op x y
@[simp] def tChainF (op op2 : CmpOp) (fc : Hs → R Val) (x y : Val) (h : Hs) : R Bool := (cmpF op x y h).bind (tChainK op2 fc y)
theorem et_chain (op op2 : CmpOp) (a b c : E) : et C (.chain op op2 a b c) st h = (ev C a st h).bind (seq2 (ev C b st) (tChainF op op2 (ev C c st))) := by
  show ((ev C a st h).bind (seq2 (ev C b st) (chainF op op2 (ev C c st)))).bind _ = _
  rw [R.bind_assoc]
  refine bind_ext fun x h1 => ?_
  show ((ev C b st h1).bind (chainF op op2 (ev C c st) x)).bind _ = (ev C b st h1).bind _
  rw [R.bind_assoc]
  refine bind_ext fun y h2 => ?_
  show ((cmpF op x y h2).bind (chainK op2 (ev C c st) y)).bind _ = (cmpF op x y h2).bind _
  rw [R.bind_assoc]
  refine bind_ext fun k h3 => ?_
  cases k with
  | bl k =>
    cases k with
    | false => rfl
    | true =>
      show ((ev C c st h3).bind (cmpF op2 y)).bind _ = (ev C c st h3).bind _
      rw [R.bind_assoc]
      exact bind_ext fun z h4 => cmp_bl h4 op2 y z
  | _ => rfl
@[simp] def tChain3K (op2 op3 : CmpOp) (fc fd : Hs → R Val) (y : Val) (k : Val) (h : Hs) : R Bool := match k with
  | .bl true => (fc h).bind (tChainF op2 op3 fd y)
  | .bl false => .ok false h
  | _ => .stk
@[simp] def tChain3F (op op2 op3 : CmpOp) (fc fd : Hs → R Val) (x y : Val) (h : Hs) : R Bool := (cmpF op x y h).bind (tChain3K op2 op3 fc fd y)
theorem chainF_bl (op op2 : CmpOp) (fc : Hs → R Val) (x y : Val) (h : Hs) : (chainF op op2 fc x y h).bind truG = tChainF op op2 fc x y h := by
  show ((cmpF op x y h).bind (chainK op2 fc y)).bind _ = (cmpF op x y h).bind _
  rw [R.bind_assoc]
  refine bind_ext fun k h3 => ?_
  cases k with
  | bl k =>
    cases k with
    | false => rfl
    | true =>
      show ((fc h3).bind (cmpF op2 y)).bind _ = (fc h3).bind _
      rw [R.bind_assoc]
      exact bind_ext fun z h4 => cmp_bl h4 op2 y z
  | _ => rfl
theorem et_chain3 (op op2 op3 : CmpOp) (a b c d : E) : et C (.chain3 op op2 op3 a b c d) st h = (ev C a st h).bind (seq2 (ev C b st) (tChain3F op op2 op3 (ev C c st) (ev C d st))) := by
  show ((ev C a st h).bind (seq2 (ev C b st) (chain3F op op2 op3 (ev C c st) (ev C d st)))).bind _ = _
  rw [R.bind_assoc]
  refine bind_ext fun x h1 => ?_
  show ((ev C b st h1).bind (chain3F op op2 op3 (ev C c st) (ev C d st) x)).bind _ = (ev C b st h1).bind _
  rw [R.bind_assoc]
  refine bind_ext fun y h2 => ?_
  show ((cmpF op x y h2).bind (chain3K op2 op3 (ev C c st) (ev C d st) y)).bind _ = (cmpF op x y h2).bind _
  rw [R.bind_assoc]
  refine bind_ext fun k h3 => ?_
  cases k with
  | bl k =>
    cases k with
    | false => rfl
    | true =>
      show ((ev C c st h3).bind (chainF op2 op3 (ev C d st) y)).bind _ = (ev C c st h3).bind _
      rw [R.bind_assoc]
      exact bind_ext fun z h4 => chainF_bl op2 op3 _ y z h4
  | _ => rfl
theorem etc_some (e : E) : etc C (.some e) st h = et C e st h := rfl
end
/-- a result as a statement's end -/
def R.st {α : Type} (r : R α) (f : α → Hs → O) : O := match r with
  | .ok a h => f a h
  | .exc c vs h => .exc c vs h
  | .stk => .stk
@[simp] theorem R.st_ok {α : Type} (a : α) (h : Hs) (f : α → Hs → O) : (R.ok a h).st f = f a h := rfl
@[simp] theorem R.st_exc {α : Type} (c : Nat) (vs : List Val) (h : Hs) (f : α → Hs → O) : (R.exc c vs h : R α).st f = .exc c vs h := rfl
@[simp] theorem R.st_stk {α : Type} (f : α → Hs → O) : (R.stk : R α).st f = .stk := rfl
def O.then (o : O) (f : Sl → Hs → O) : O := match o with
  | .nx st h => f st h
  | o => o
@[simp] theorem O.then_nx (st : Sl) (h : Hs) (f : Sl → Hs → O) : (O.nx st h).then f = f st h := rfl
@[simp] theorem O.then_rt (v : Val) (h : Hs) (f : Sl → Hs → O) : (O.rt v h).then f = .rt v h := rfl
@[simp] theorem O.then_bk (st : Sl) (h : Hs) (f : Sl → Hs → O) : (O.bk st h).then f = .bk st h := rfl
@[simp] theorem O.then_ct (st : Sl) (h : Hs) (f : Sl → Hs → O) : (O.ct st h).then f = .ct st h := rfl
@[simp] theorem O.then_exc (c : Nat) (vs : List Val) (h : Hs) (f : Sl → Hs → O) : (O.exc c vs h).then f = .exc c vs h := rfl
@[simp] theorem O.then_stk (f : Sl → Hs → O) : O.stk.then f = .stk := rfl
def nxO (o : Option Hs) (st : Sl) : O := match o with
  | some h => .nx st h
  | none => .stk
@[simp] theorem nxO_some (h : Hs) (st : Sl) : nxO (some h) st = .nx st h := rfl
@[simp] theorem nxO_none (st : Sl) : nxO none st = .stk := rfl
def forV (step : Val → Sl → Hs → O) (src : Src) : List Val → Sl → Hs → O
  | [], st, h => if src.ok h then .nx st h else .stk
  | v :: vs, st, h => if src.ok h then (match step v st h with
    | .nx st h => forV step src vs st h
    | .ct st h => forV step src vs st h
    | .bk st h => .nx st h
    | o => o) else .stk
def whV (test : Sl → Hs → R Bool) (body : Sl → Hs → O) : Nat → Sl → Hs → O
  | 0, _, _ => .stk
  | n + 1, st, h => (test st h).st fun k h => if k = true then (match body st h with
    | .nx st h => whV test body n st h
    | .ct st h => whV test body n st h
    | .bk st h => .nx st h
    | o => o) else .nx st h
def fuel : Nat := 1000000
@[simp] def exprK (st : Sl) (_ : Val) (h : Hs) : O := .nx st h
@[simp] def asgK (t : Tg) (st : Sl) (v : Val) (h : Hs) : O := match setT t v st with
  | some st => .nx st h
  | none => .stk
@[simp] def fldS2 (C : Calls) (f : Nat) (st : Sl) (v x : Val) (h : Hs) : O := nxO (setFld C.fldok x f v h) st
@[simp] def fldS1 (C : Calls) (f : Nat) (fo : Hs → R Val) (st : Sl) (v : Val) (h : Hs) : O := (fo h).st (fldS2 C f st v)
@[simp] def subS3 (st : Sl) (v x y : Val) (h : Hs) : O := nxO (setF x y v h) st
@[simp] def subS2 (fi : Hs → R Val) (st : Sl) (v x : Val) (h : Hs) : O := (fi h).st (subS3 st v x)
@[simp] def subS1 (fo fi : Hs → R Val) (st : Sl) (v : Val) (h : Hs) : O := (fo h).st (subS2 fi st v)
@[simp] def augK2 (i : Nat) (st : Sl) (z : Val) (h : Hs) : O := .nx (st.set i (some z)) h
@[simp] def augK (i : Nat) (op : Operator) (st : Sl) (x y : Val) (h : Hs) : O := (ipF op x y h).st (augK2 i st)
@[simp] def augG (i : Nat) (op : Operator) (fe : Hs → R Val) (st : Sl) (o : Option (Option Val)) (h : Hs) : O := match o with
  | some (some x) => (fe h).st (augK i op st x)
  | _ => .stk
@[simp] def afS4 (C : Calls) (f : Nat) (st : Sl) (x : Val) (h0 : Hs) (z : Val) (h : Hs) : O := if clsF x h = clsF x h0 then nxO (setFld C.fldok x f z h) st else .stk
@[simp] def afS3 (C : Calls) (f : Nat) (op : Operator) (st : Sl) (x : Val) (h0 : Hs) (a y : Val) (h : Hs) : O := (ipF op a y h).st (afS4 C f st x h0)
@[simp] def afS2 (C : Calls) (f : Nat) (op : Operator) (fe : Hs → R Val) (st : Sl) (x : Val) (h0 : Hs) (a : Val) (h : Hs) : O := (fe h).st (afS3 C f op st x h0 a)
@[simp] def afS1 (C : Calls) (f : Nat) (op : Operator) (fe : Hs → R Val) (st : Sl) (x : Val) (h0 : Hs) : O := (fldF x f h0).st (afS2 C f op fe st x h0)
@[simp] def asS5 (st : Sl) (x k z : Val) (h : Hs) : O := nxO (setF x k z h) st
@[simp] def asS4 (op : Operator) (st : Sl) (x k a y : Val) (h : Hs) : O := (ipF op a y h).st (asS5 st x k)
@[simp] def asS3 (op : Operator) (fe : Hs → R Val) (st : Sl) (x k a : Val) (h : Hs) : O := (fe h).st (asS4 op st x k a)
@[simp] def asS2 (op : Operator) (fe : Hs → R Val) (st : Sl) (x k : Val) (h : Hs) : O := (gtF x k h).st (asS3 op fe st x k)
@[simp] def asS1 (op : Operator) (fi fe : Hs → R Val) (st : Sl) (x : Val) (h : Hs) : O := (fi h).st (asS2 op fe st x)
@[simp] def delS2 (st : Sl) (x y : Val) (h : Hs) : O := nxO (delF x y h) st
@[simp] def delS1 (fi : Hs → R Val) (st : Sl) (x : Val) (h : Hs) : O := (fi h).st (delS2 st x)
@[simp] def ifS (fa fb : Hs → O) (k : Bool) (h : Hs) : O := if k = true then fa h else fb h
def forK (t : Tg) (fb : Sl → Hs → O) (v : Val) (st : Sl) (h : Hs) : O := match setT t v st with
  | some st => fb st h
  | none => .stk
@[simp] def forS (t : Tg) (fb : Sl → Hs → O) (st : Sl) (src : Src) (h : Hs) : O := forV (forK t fb) src src.items st h
@[simp] def retK (v : Val) (h : Hs) : O := .rt v h
mutual
def ex (C : Calls) : S → Sl → Hs → O
  | .expr e, st, h => (ev C e st h).st (exprK st)
  | .asg t e, st, h => (ev C e st h).st (asgK t st)
  | .fld o f e, st, h => (ev C e st h).st (fldS1 C f (ev C o st) st)
  | .sub o i e, st, h => (ev C e st h).st (subS1 (ev C o st) (ev C i st) st)
  | .aug i op e, st, h => augG i op (ev C e st) st st[i]? h
  | .augF o f op e, st, h => (ev C o st h).st (afS1 C f op (ev C e st) st)
  | .augS o i op e, st, h => (ev C o st h).st (asS1 op (ev C i st) (ev C e st) st)
  | .del o i, st, h => (ev C o st h).st (delS1 (ev C i st) st)
  | .ifs c a b, st, h => (et C c st h).st (ifS (exs C a st) (exs C b st))
  | .fors t it body, st, h => (evi C it st h).st (forS t (exs C body) st)
  | .whil c body, st, h => whV (et C c) (exs C body) fuel st h
  | .ret e, st, h => (ev C e st h).st retK
  | .retN, _, h => .rt .non h
  | .brk, st, h => .bk st h
  | .cont, st, h => .ct st h
  | .pass, st, h => .nx st h
def exs (C : Calls) : Ss → Sl → Hs → O
  | .nil, st, h => .nx st h
  | .cons s ss, st, h => (ex C s st h).then (exs C ss)
end
section
variable (C : Calls) (st : Sl) (h : Hs)
@[simp] theorem q_ex_expr (e : E) : ex C (S.expr e) st h = (ev C e st h).st (exprK st) := rfl
@[simp] theorem q_ex_asg (t : Tg) (e : E) : ex C (S.asg t e) st h = (ev C e st h).st (asgK t st) := rfl
@[simp] theorem q_ex_fld (o : E) (f : Nat) (e : E) : ex C (S.fld o f e) st h = (ev C e st h).st (fldS1 C f (ev C o st) st) := rfl
@[simp] theorem q_ex_sub (o : E) (i : E) (e : E) : ex C (S.sub o i e) st h = (ev C e st h).st (subS1 (ev C o st) (ev C i st) st) := rfl
@[simp] theorem q_ex_aug (i : Nat) (op : Operator) (e : E) : ex C (S.aug i op e) st h = augG i op (ev C e st) st st[i]? h := rfl
@[simp] theorem q_ex_augF (o : E) (f : Nat) (op : Operator) (e : E) : ex C (S.augF o f op e) st h = (ev C o st h).st (afS1 C f op (ev C e st) st) := rfl
@[simp] theorem q_ex_augS (o : E) (i : E) (op : Operator) (e : E) : ex C (S.augS o i op e) st h = (ev C o st h).st (asS1 op (ev C i st) (ev C e st) st) := rfl
@[simp] theorem q_ex_del (o : E) (i : E) : ex C (S.del o i) st h = (ev C o st h).st (delS1 (ev C i st) st) := rfl
@[simp] theorem q_ex_ifs (c : E) (a : Ss) (b : Ss) : ex C (S.ifs c a b) st h = (et C c st h).st (ifS (exs C a st) (exs C b st)) := rfl
@[simp] theorem q_ex_fors (t : Tg) (it : I) (body : Ss) : ex C (S.fors t it body) st h = (evi C it st h).st (forS t (exs C body) st) := rfl
@[simp] theorem q_ex_whil (c : E) (body : Ss) : ex C (S.whil c body) st h = whV (et C c) (exs C body) fuel st h := rfl
@[simp] theorem q_ex_ret (e : E) : ex C (S.ret e) st h = (ev C e st h).st retK := rfl
@[simp] theorem q_ex_retN : ex C (S.retN) st h = .rt .non h := rfl
@[simp] theorem q_ex_brk : ex C (S.brk) st h = .bk st h := rfl
@[simp] theorem q_ex_cont : ex C (S.cont) st h = .ct st h := rfl
@[simp] theorem q_ex_pass : ex C (S.pass) st h = .nx st h := rfl
@[simp] theorem q_exs_nil : exs C (Ss.nil) st h = .nx st h := rfl
@[simp] theorem q_exs_cons (s : S) (ss : Ss) : exs C (Ss.cons s ss) st h = (ex C s st h).then (exs C ss) := rfl
end
/-! ### functions, programs -/
structure Fn where
  cls : Option Str
  name : Str
  ps : List Str
  nms : List Str
  body : Ss
structure Cl where
  name : Str
  init : Option Nat
  meths : List (Nat × Nat)
  flds : List Nat
structure Tab where
  fns : List Fn
  cls : List Cl
  globs : List (Str × Val)
  nm : List Str
  free : List Str
def endF (o : O) : R Val := match o with
  | .rt v h => .ok v h
  | .nx _ h => .ok .non h
  | .exc c vs h => .exc c vs h
  | _ => .stk
@[simp] theorem endF_rt (v : Val) (h : Hs) : endF (.rt v h) = .ok v h := rfl
@[simp] theorem endF_nx (st : Sl) (h : Hs) : endF (.nx st h) = .ok .non h := rfl
@[simp] theorem endF_exc (c : Nat) (vs : List Val) (h : Hs) : endF (.exc c vs h) = .exc c vs h := rfl
@[simp] def startS (k : Nat) (vs : List Val) : Sl := vs.map some ++ List.replicate (k - vs.length) none
@[simp] def run (C : Calls) (d : Fn) (vs : List Val) (h : Hs) : R Val := if vs.length = d.ps.length then endF (exs C d.body (startS d.nms.length vs) h) else .stk
/-- the calls of level n, those of the level below -/
def callP (G : Tab) : Nat → (Nat → List Val → Hs → R Val) × (Nat → List Val → Hs → R Val)
  | 0 => (fun _ _ _ => .stk, fun _ _ _ => .stk)
  | n + 1 => (fun f vs h => match G.fns[f]? with
    | some d => run ⟨(callP G n).1, (callP G n).2, fun c m => (G.cls[c]?).bind fun k => k.meths.lookup m, fun c => (G.cls[c]?).bind (·.init), fun k => (G.globs[k]?).map (·.2), fun c f => match G.cls[c]? with | some k => k.flds.contains f | none => false⟩ d vs h
    | none => .stk, (callP G n).1)
def callN (G : Tab) (n : Nat) : Nat → List Val → Hs → R Val := (callP G n).1
def callsN (G : Tab) (n : Nat) : Calls := ⟨(callP G n).1, (callP G n).2, fun c m => (G.cls[c]?).bind fun k => k.meths.lookup m, fun c => (G.cls[c]?).bind (·.init), fun k => (G.globs[k]?).map (·.2), fun c f => match G.cls[c]? with | some k => k.flds.contains f | none => false⟩
theorem callN_eq {G : Tab} {n f : Nat} {d : Fn} (e : G.fns[f]? = some d) (vs : List Val) (h : Hs) : callN G (n + 1) f vs h = run (callsN G n) d vs h := by
  show (match G.fns[f]? with
    | some d => run _ d vs h
    | none => R.stk) = _
  rw [e]
  rfl
theorem callsN_f (G : Tab) (n : Nat) : (callsN G n).f = callN G n := rfl
theorem callsN_i (G : Tab) (n : Nat) : (callsN G (n + 1)).i = callN G n := rfl
end MP

set_option Elab.async false
set_option linter.all false
set_option maxRecDepth 100000
set_option maxHeartbeats 1000000
set_option autoImplicit false
/-! MPb: how a value, a heap of MP lies in the model; the operations are sound. -/
namespace MP
open PySem PySem.Spec PyProof.Rows L2

abbrev mk (s : List Nat) : Str := ⟨s.toArray⟩
theorem mk_len (s : List Nat) : (mk s).length = s.length := by simp [mk, Str.length]
theorem mk_inj {s t : List Nat} : mk s = mk t ↔ s = t := by
  constructor
  · intro h
    have := congrArg (fun z : Str => z.cps.toList) h
    simpa [mk] using this
  · intro h
    rw [h]
theorem mk_of (z : Str) : mk z.cps.toList = z := by
  obtain ⟨⟨l⟩⟩ := z
  rfl
theorem lim_eq : sizeLine = lim := by rw [sizeLine_eq]; rfl

/-- what is fixed: the written part, the names' table, the classes' addresses -/
structure Ev where
  K : PySem.W.Frag
  nm : List Str
  ca : Nat → Addr
mutual
inductive RV (K : PySem.W.Frag) (m : List Addr) (H : Hp) : Val → V → Prop
  | non : RV K m H .non .non
  | bl (b : Bool) : RV K m H (.bl b) (.bl b)
  | int (i : Int) : RV K m H (.int i) (.int i)
  | str (s : List Nat) : RV K m H (.str s) (.str (mk s))
  | tup {a : Addr} {xs : List V} {vs : List Val} : SqT K H a xs → RVs K m H vs xs → RV K m H (.tup vs) (.ref a)
  | ref {n : Nat} {a : Addr} : m[n]? = some a → RV K m H (.ref n) (.ref a)
inductive RVs (K : PySem.W.Frag) (m : List Addr) (H : Hp) : List Val → List V → Prop
  | nil : RVs K m H [] []
  | cons {v : Val} {vs : List Val} {x : V} {xs : List V} : RV K m H v x → RVs K m H vs xs → RVs K m H (v :: vs) (x :: xs)
end
/-- what may become of the heap: all addresses known stay, tuples and locked things stay -/
structure Ext (m : List Addr) (H : Hp) (m' : List Addr) (H' : Hp) : Prop where
  pre : ∀ (n : Nat) (a : Addr), m[n]? = some a → m'[n]? = some a
  tup : ∀ a xs, H a = some (.tup xs) → H' a = some (.tup xs)
  frz : ∀ a o u, H a = some (.frz o u) → H' a = some (.frz o u)
theorem Ext.refl (m : List Addr) (H : Hp) : Ext m H m H := ⟨fun _ _ h => h, fun _ _ h => h, fun _ _ _ h => h⟩
theorem Ext.trans {m m1 m2 : List Addr} {H H1 H2 : Hp} (a : Ext m H m1 H1) (b : Ext m1 H1 m2 H2) : Ext m H m2 H2 :=
  ⟨fun n x h => b.pre n x (a.pre n x h), fun x xs h => b.tup x xs (a.tup x xs h), fun x o u h => b.frz x o u (a.frz x o u h)⟩
theorem Ext.sqT {K : PySem.W.Frag} {m m' : List Addr} {H H' : Hp} {a : Addr} {xs : List V} (e : Ext m H m' H') (h : SqT K H a xs) : SqT K H' a xs := by
  rcases h with (h | ⟨o, h⟩) | h
  · exact .inl (.inl (e.tup a xs h))
  · exact .inl (.inr ⟨o, e.frz a o _ h⟩)
  · exact .inr h
section
variable {K : PySem.W.Frag} {m m' : List Addr} {H H' : Hp}
mutual
theorem RV.mono (e : Ext m H m' H') : ∀ (v : Val) (x : V), RV K m H v x → RV K m' H' v x
  | .non, _, h => by cases h; exact .non
  | .bl b, _, h => by cases h; exact .bl b
  | .int i, _, h => by cases h; exact .int i
  | .str s, _, h => by cases h; exact .str s
  | .tup vs, _, h => by
    cases h with
    | tup h1 h2 => exact .tup (e.sqT h1) (RVs.mono e vs _ h2)
  | .ref n, _, h => by
    cases h with
    | ref h1 => exact .ref (e.pre _ _ h1)
theorem RVs.mono (e : Ext m H m' H') : ∀ (vs : List Val) (xs : List V), RVs K m H vs xs → RVs K m' H' vs xs
  | [], _, h => by cases h; exact .nil
  | v :: vs, _, h => by
    cases h with
    | cons h1 h2 => exact .cons (RV.mono e v _ h1) (RVs.mono e vs _ h2)
end
theorem RVs.len : ∀ {vs : List Val} {xs : List V}, RVs K m H vs xs → vs.length = xs.length
  | [], _, h => by cases h; rfl
  | v :: vs, _, h => by
    cases h with
    | cons h1 h2 => simp [RVs.len h2]
theorem RVs.get : ∀ {vs : List Val} {xs : List V} {i : Nat} {v : Val}, RVs K m H vs xs → vs[i]? = some v → ∃ x, xs[i]? = some x ∧ RV K m H v x
  | [], _, _, _, _, e => by simp at e
  | v :: vs, _, 0, _, h, e => by
    cases h with
    | cons h1 h2 => simp at e; subst e; exact ⟨_, rfl, h1⟩
  | v :: vs, _, i + 1, _, h, e => by
    cases h with
    | cons h1 h2 =>
      obtain ⟨x, q, r⟩ := RVs.get h2 (i := i) (by simpa using e)
      exact ⟨x, by simpa using q, r⟩
theorem RVs.get' : ∀ {vs : List Val} {xs : List V} {i : Nat} {x : V}, RVs K m H vs xs → xs[i]? = some x → ∃ v, vs[i]? = some v ∧ RV K m H v x := fun {vs xs i x} h e => by
  have hi : i < xs.length := (List.getElem?_eq_some_iff.mp e).1
  have hj : i < vs.length := by rw [h.len]; exact hi
  have hv : vs[i]? = some vs[i] := List.getElem?_eq_getElem hj
  obtain ⟨y, q, r⟩ := h.get hv
  rw [e] at q
  cases q
  exact ⟨_, hv, r⟩
theorem RVs.append : ∀ {vs ws : List Val} {xs ys : List V}, RVs K m H vs xs → RVs K m H ws ys → RVs K m H (vs ++ ws) (xs ++ ys)
  | [], _, _, _, h, h' => by cases h; exact h'
  | v :: vs, _, _, _, h, h' => by
    cases h with
    | cons h1 h2 => exact .cons h1 (RVs.append h2 h')
theorem RVs.take : ∀ {vs : List Val} {xs : List V} (n : Nat), RVs K m H vs xs → RVs K m H (vs.take n) (xs.take n)
  | _, _, 0, _ => by simp; exact .nil
  | [], _, n + 1, h => by cases h; exact .nil
  | v :: vs, _, n + 1, h => by
    cases h with
    | cons h1 h2 => exact .cons h1 (RVs.take n h2)
theorem RVs.drop : ∀ {vs : List Val} {xs : List V} (n : Nat), RVs K m H vs xs → RVs K m H (vs.drop n) (xs.drop n)
  | _, _, 0, h => by simpa using h
  | [], _, n + 1, h => by cases h; exact .nil
  | v :: vs, _, n + 1, h => by
    cases h with
    | cons h1 h2 => exact RVs.drop n h2
theorem RVs.set : ∀ {vs : List Val} {xs : List V} (i : Nat) {v : Val} {x : V}, RVs K m H vs xs → RV K m H v x → RVs K m H (vs.set i v) (xs.set i x)
  | [], _, _, _, _, h, _ => by cases h; exact .nil
  | v :: vs, _, 0, _, _, h, r => by
    cases h with
    | cons h1 h2 => exact .cons r h2
  | v :: vs, _, i + 1, _, _, h, r => by
    cases h with
    | cons h1 h2 => exact .cons h1 (RVs.set i h2 r)
theorem RVs.rep {vs : List Val} {xs : List V} (h : RVs K m H vs xs) : ∀ k : Nat, RVs K m H (List.replicate k vs).flatten (List.replicate k xs).flatten
  | 0 => .nil
  | k + 1 => by
    rw [List.replicate_succ, List.replicate_succ, List.flatten_cons, List.flatten_cons]
    exact h.append (RVs.rep h k)
theorem RVs.cut {vs : List Val} {xs : List V} (h : RVs K m H vs xs) (lo hi : Option Int) : RVs K m H (cutL vs lo hi) (cutV xs lo hi) := by
  unfold cutL cutV
  rw [h.len]
  exact (h.drop _).take _
theorem RVs.dropLast {vs : List Val} {xs : List V} (h : RVs K m H vs xs) : RVs K m H vs.dropLast xs.dropLast := by
  rw [List.dropLast_eq_take, List.dropLast_eq_take, h.len]
  exact h.take _
theorem RVs.ints : ∀ {vs : List Val} {xs : List V} {ns : List Int}, RVs K m H vs xs → isInts vs = some ns → xs = ns.map V.int
  | [], _, _, h, e => by cases h; simp [isInts] at e; subst e; rfl
  | .int i :: vs, _, ns, h, e => by
    cases h with
    | cons h1 h2 =>
      cases h1
      simp only [isInts, Option.map_eq_some_iff] at e
      obtain ⟨ms, e1, e2⟩ := e
      subst e2
      rw [RVs.ints h2 e1]
      rfl
  | .non :: _, _, _, _, e => by simp [isInts] at e
  | .bl _ :: _, _, _, _, e => by simp [isInts] at e
  | .str _ :: _, _, _, _, e => by simp [isInts] at e
  | .tup _ :: _, _, _, _, e => by simp [isInts] at e
  | .ref _ :: _, _, _, _, e => by simp [isInts] at e
theorem RVs.strs : ∀ {vs : List Val} {xs : List V} {ns : List (List Nat)}, RVs K m H vs xs → isStrs vs = some ns → xs = (ns.map mk).map V.str
  | [], _, _, h, e => by cases h; simp [isStrs] at e; subst e; rfl
  | .str i :: vs, _, ns, h, e => by
    cases h with
    | cons h1 h2 =>
      cases h1
      simp only [isStrs, Option.map_eq_some_iff] at e
      obtain ⟨ms, e1, e2⟩ := e
      subst e2
      rw [RVs.strs h2 e1]
      rfl
  | .non :: _, _, _, _, e => by simp [isStrs] at e
  | .bl _ :: _, _, _, _, e => by simp [isStrs] at e
  | .int _ :: _, _, _, _, e => by simp [isStrs] at e
  | .tup _ :: _, _, _, _, e => by simp [isStrs] at e
  | .ref _ :: _, _, _, _, e => by simp [isStrs] at e
theorem rvs_ints : ∀ ns : List Int, RVs K m H (ns.map Val.int) (ns.map V.int)
  | [] => .nil
  | n :: r => .cons (.int n) (rvs_ints r)
theorem rvs_strs : ∀ ns : List (List Nat), RVs K m H (ns.map Val.str) ((ns.map mk).map V.str)
  | [] => .nil
  | n :: r => .cons (.str n) (rvs_strs r)
end

/-! ### objects -/
def kyK : Ky → Key
  | .inl i => .inl i
  | .inr s => .inr (mk s)
theorem kyK_inj {a b : Ky} : kyK a = kyK b ↔ a = b := by
  constructor
  · intro h
    cases a <;> cases b <;> simp only [kyK] at h
    · exact congrArg Sum.inl (Sum.inl.inj h)
    · cases h
    · cases h
    · exact congrArg Sum.inr (mk_inj.mp (Sum.inr.inj h))
  · intro h
    rw [h]
inductive DR (K : PySem.W.Frag) (m : List Addr) (H : Hp) : List (Ky × Val) → List (Key × V) → Prop
  | nil : DR K m H [] []
  | cons {k : Ky} {v : Val} {x : V} {r : List (Ky × Val)} {s : List (Key × V)} : RV K m H v x → DR K m H r s → DR K m H ((k, v) :: r) ((kyK k, x) :: s)
inductive FR (nm : List Str) (K : PySem.W.Frag) (m : List Addr) (H : Hp) : List (Nat × Val) → List (Str × V) → Prop
  | nil : FR nm K m H [] []
  | cons {f : Nat} {g : Str} {v : Val} {x : V} {r : List (Nat × Val)} {s : List (Str × V)} : nm[f]? = some g → RV K m H v x → FR nm K m H r s → FR nm K m H ((f, v) :: r) ((g, x) :: s)
def ObR (Z : Ev) (m : List Addr) (H : Hp) (a : Addr) : Ob → Prop
  | .lst vs => ∃ xs, H a = some (.lst xs) ∧ RVs Z.K m H vs xs
  | .frz vs => ∃ xs, ((∃ o, H a = some (.frz o (.lst xs))) ∨ SqL Z.K (fun _ => none) a xs) ∧ RVs Z.K m H vs xs
  | .dct kvs => ∃ kxs, H a = some (.dK kxs) ∧ DR Z.K m H kvs kxs
  | .ins c fs => ∃ dx fx, H a = some (.ins (Z.ca c) dx fx) ∧ FR Z.nm Z.K m H fs fx ∧ Cls Z.K (Z.ca c) ∧ ∀ q ∈ fx, NoAttr Z.K (Z.ca c) q.1
def Ob.mut : Ob → Bool
  | .frz _ => false
  | _ => true
structure Rep (Z : Ev) (m : List Addr) (h : Hs) (H : Hp) : Prop where
  nm : Z.nm.Nodup
  len : m.length = h.length
  inj : ∀ (n k : Nat) (a : Addr) (ob ob' : Ob), m[n]? = some a → m[k]? = some a → h[n]? = some ob → h[k]? = some ob' → ob.mut = true → ob'.mut = true → n = k
  all : ∀ (n : Nat) (ob : Ob), h[n]? = some ob → ∃ a, m[n]? = some a ∧ ObR Z m H a ob
section
variable {Z : Ev} {K : PySem.W.Frag} {m m' : List Addr} {H H' : Hp} {h : Hs}
theorem DR.mono (e : Ext m H m' H') : ∀ {r : List (Ky × Val)} {s : List (Key × V)}, DR K m H r s → DR K m' H' r s
  | _, _, .nil => .nil
  | _, _, .cons a b => .cons (RV.mono e _ _ a) (DR.mono e b)
theorem FR.mono {nm : List Str} (e : Ext m H m' H') : ∀ {r : List (Nat × Val)} {s : List (Str × V)}, FR nm K m H r s → FR nm K m' H' r s
  | _, _, .nil => .nil
  | _, _, .cons g a b => .cons g (RV.mono e _ _ a) (FR.mono e b)
theorem ObR.some {a : Addr} {ob : Ob} (r : ObR Z m H a ob) (hm : ob.mut = true) : H a ≠ none := by
  cases ob with
  | lst vs => obtain ⟨xs, e, _⟩ := r; rw [e]; simp
  | frz vs => cases hm
  | dct kvs => obtain ⟨xs, e, _⟩ := r; rw [e]; simp
  | ins c fs => obtain ⟨dx, xs, e, _⟩ := r; rw [e]; simp
theorem SqL.none_of {a : Addr} {xs : List V} (h : SqL K (fun _ => none) a xs) (H : Hp) : SqL K H a xs := by
  rcases h with (h | ⟨o, h⟩) | h
  · cases h
  · cases h
  · exact .inr h
/-- the same object, its own place untouched -/
theorem ObR.stay {a : Addr} {ob : Ob} (r : ObR Z m H a ob) (e : Ext m H m' H') (ha : ob.mut = true → H' a = H a) : ObR Z m' H' a ob := by
  cases ob with
  | lst vs => obtain ⟨xs, q, w⟩ := r; exact ⟨xs, (ha rfl).trans q, RVs.mono e _ _ w⟩
  | frz vs =>
    obtain ⟨xs, q, w⟩ := r
    refine ⟨xs, ?_, RVs.mono e _ _ w⟩
    rcases q with ⟨o, q⟩ | q
    · exact .inl ⟨o, e.frz _ _ _ q⟩
    · exact .inr q
  | dct kvs => obtain ⟨xs, q, w⟩ := r; exact ⟨xs, (ha rfl).trans q, w.mono e⟩
  | ins c fs => obtain ⟨dx, xs, q, w, z⟩ := r; exact ⟨dx, xs, (ha rfl).trans q, w.mono e, z⟩
theorem ext_new {p : Addr} {o : HO} (hp : H p = none) : Ext m H (m ++ [p]) (upd H p o) := by
  refine ⟨fun n a e => ?_, fun a xs e => ?_, fun a o u e => ?_⟩
  · rw [List.getElem?_append_left (List.getElem?_eq_some_iff.mp e).1]; exact e
  · rw [upd_ne (ne_of_none e hp)]; exact e
  · rw [upd_ne (ne_of_none e hp)]; exact e
theorem ext_new0 {p : Addr} {o : HO} (hp : H p = none) : Ext m H m (upd H p o) := by
  refine ⟨fun n a e => e, fun a xs e => ?_, fun a o u e => ?_⟩
  · rw [upd_ne (ne_of_none e hp)]; exact e
  · rw [upd_ne (ne_of_none e hp)]; exact e
/-- a new thing that MP does not know (a tuple) -/
theorem Rep.lay (r : Rep Z m h H) {p : Addr} {o : HO} (hp : H p = none) : Rep Z m h (upd H p o) := by
  refine ⟨r.nm, r.len, r.inj, fun n ob e => ?_⟩
  obtain ⟨a, q, w⟩ := r.all n ob e
  refine ⟨a, q, w.stay (ext_new0 hp) fun hm => ?_⟩
  refine upd_ne fun z => ?_
  subst z
  exact w.some hm hp
/-- a new object -/
theorem Rep.new (r : Rep Z m h H) {p : Addr} {o : HO} {ob : Ob} (hp : H p = none) (w : ObR Z (m ++ [p]) (upd H p o) p ob) : Rep Z (m ++ [p]) (h ++ [ob]) (upd H p o) := by
  have lm : m.length = h.length := r.len
  refine ⟨r.nm, by simp [lm], fun n k a o1 o2 e1 e2 q1 q2 m1 m2 => ?_, fun n o1 e => ?_⟩
  · have ln : n < h.length ∨ n = h.length := by
      have := (List.getElem?_eq_some_iff.mp q1).1
      simp at this
      omega
    have lk : k < h.length ∨ k = h.length := by
      have := (List.getElem?_eq_some_iff.mp q2).1
      simp at this
      omega
    rcases ln with ln | ln <;> rcases lk with lk | lk
    · rw [List.getElem?_append_left (by omega)] at e1 e2 q1 q2
      exact r.inj n k a o1 o2 e1 e2 q1 q2 m1 m2
    · rw [List.getElem?_append_left (by omega)] at e1 q1
      subst lk
      rw [← lm] at e2
      simp at e2
      subst e2
      obtain ⟨b, z1, z2⟩ := r.all n o1 q1
      rw [e1] at z1
      cases z1
      exact absurd hp (z2.some m1)
    · rw [List.getElem?_append_left (by omega)] at e2 q2
      subst ln
      rw [← lm] at e1
      simp at e1
      subst e1
      obtain ⟨b, z1, z2⟩ := r.all k o2 q2
      rw [e2] at z1
      cases z1
      exact absurd hp (z2.some m2)
    · omega
  · have ln : n < h.length ∨ n = h.length := by
      have := (List.getElem?_eq_some_iff.mp e).1
      simp at this
      omega
    rcases ln with ln | ln
    · rw [List.getElem?_append_left ln] at e
      obtain ⟨a, q, z⟩ := r.all n o1 e
      refine ⟨a, (ext_new (m := m) (o := o) hp).pre _ _ q, z.stay (ext_new hp) fun hm => upd_ne fun y => ?_⟩
      subst y
      exact z.some hm hp
    · subst ln
      simp at e
      subst e
      exact ⟨p, by rw [← lm]; simp, w⟩
theorem ext_mut {a : Addr} {o u : HO} (ha : H a = some u) (h1 : ∀ xs, u ≠ .tup xs) (h2 : ∀ x y, u ≠ .frz x y) : Ext m H m (upd H a o) := by
  refine ⟨fun n b e => e, fun b xs e => ?_, fun b x y e => ?_⟩
  · rw [upd_ne]; · exact e
    intro z; subst z; rw [ha] at e; exact h1 xs (Option.some.inj e)
  · rw [upd_ne]; · exact e
    intro z; subst z; rw [ha] at e; exact h2 x y (Option.some.inj e)
/-- an object changed -/
theorem Rep.set (r : Rep Z m h H) {n : Nat} {a : Addr} {o u : HO} {ob ob' : Ob} (hn : m[n]? = some a) (hb : h[n]? = some ob) (hm : ob.mut = true) (hm' : ob'.mut = true) (ha : H a = some u) (h1 : ∀ xs, u ≠ .tup xs) (h2 : ∀ x y, u ≠ .frz x y)
    (w : ObR Z m (upd H a o) a ob') : Rep Z m (h.set n ob') (upd H a o) := by
  refine ⟨r.nm, by simp [r.len], fun i k b o1 o2 e1 e2 q1 q2 m1 m2 => ?_, fun i o1 e => ?_⟩
  · have g : ∀ (j : Nat) (z : Ob), (h.set n ob')[j]? = some z → z.mut = true → ∃ y, h[j]? = some y ∧ y.mut = true := fun j z q hz => by
      by_cases hj : n = j
      · subst hj; exact ⟨ob, hb, hm⟩
      · rw [List.getElem?_set_ne hj] at q; exact ⟨z, q, hz⟩
    obtain ⟨y1, z1, z2⟩ := g i o1 q1 m1
    obtain ⟨y2, z3, z4⟩ := g k o2 q2 m2
    exact r.inj i k b y1 y2 e1 e2 z1 z3 z2 z4
  · by_cases hj : n = i
    · subst hj
      rw [List.getElem?_set_self (List.getElem?_eq_some_iff.mp hb).1] at e
      cases e
      exact ⟨a, hn, w⟩
    · rw [List.getElem?_set_ne hj] at e
      obtain ⟨b, q, z⟩ := r.all i o1 e
      refine ⟨b, q, z.stay (ext_mut ha h1 h2) fun hz => upd_ne fun y => hj ?_⟩
      subst y
      exact r.inj n i b ob o1 hn q hb e hm hz
theorem Rep.at_ (r : Rep Z m h H) {n : Nat} {a : Addr} {ob : Ob} (hn : m[n]? = some a) (hb : h[n]? = some ob) : ObR Z m H a ob := by
  obtain ⟨b, q, w⟩ := r.all n ob hb
  rw [hn] at q
  cases q
  exact w
theorem Rep.lst (r : Rep Z m h H) {n : Nat} {a : Addr} {vs : List Val} (hn : m[n]? = some a) (hb : h[n]? = some (.lst vs)) : ∃ xs, H a = some (.lst xs) ∧ RVs Z.K m H vs xs := r.at_ hn hb
/-- a sequence -/
theorem Rep.seq (r : Rep Z m h H) {v : Val} {x : V} {vs : List Val} (rv : RV Z.K m H v x) (e : seqOf h v = some vs) : ∃ a xs, x = .ref a ∧ (SqL Z.K H a xs ∨ SqT Z.K H a xs) ∧ RVs Z.K m H vs xs := by
  cases rv with
  | tup h1 h2 =>
    simp [seqOf] at e
    subst e
    exact ⟨_, _, rfl, .inr h1, h2⟩
  | @ref n a h1 =>
    simp only [seqOf] at e
    cases q : h[n]? with
    | none => rw [q] at e; cases e
    | some ob =>
      rw [q] at e
      have w := r.at_ h1 q
      cases ob with
      | lst ws =>
        cases e
        obtain ⟨xs, z1, z2⟩ := w
        exact ⟨a, xs, rfl, .inl (SqL.of z1), z2⟩
      | frz ws =>
        cases e
        obtain ⟨xs, z1, z2⟩ := w
        refine ⟨a, xs, rfl, .inl ?_, z2⟩
        rcases z1 with ⟨o, z1⟩ | z1
        · exact .inl (.inr ⟨o, z1⟩)
        · exact SqL.none_of z1 H
      | dct _ => cases e
      | ins _ _ => cases e
  | non => cases e
  | bl _ => cases e
  | int _ => cases e
  | str _ => cases e
theorem Rep.seqL (r : Rep Z m h H) {n : Nat} {a : Addr} {vs : List Val} (hn : m[n]? = some a) (hb : h[n]? = some (.lst vs) ∨ h[n]? = some (.frz vs)) : ∃ xs, SqL Z.K H a xs ∧ RVs Z.K m H vs xs := by
  rcases hb with hb | hb
  · obtain ⟨xs, z1, z2⟩ := r.at_ hn hb
    exact ⟨xs, SqL.of z1, z2⟩
  · obtain ⟨xs, z1, z2⟩ := r.at_ hn hb
    refine ⟨xs, ?_, z2⟩
    rcases z1 with ⟨o, z1⟩ | z1
    · exact .inl (.inr ⟨o, z1⟩)
    · exact SqL.none_of z1 H
end
/-! ### what is wanted behind a result -/
def Post (Z : Ev) (m : List Addr) (H : Hp) (r : R Val) (Q : VK) : Prop := match r with
  | .ok v h => ∀ m' H' x, Ext m H m' H' → Rep Z m' h H' → RV Z.K m' H' v x → Q x H'
  | _ => False
def PostB (Z : Ev) (m : List Addr) (H : Hp) (r : R Bool) (Q : Bool → Hp → Prop) : Prop := match r with
  | .ok b h => ∀ m' H', Ext m H m' H' → Rep Z m' h H' → Q b H'
  | _ => False
def PostL (Z : Ev) (m : List Addr) (H : Hp) (r : R (List Val)) (Q : List V → Hp → Prop) : Prop := match r with
  | .ok vs h => ∀ m' H' xs, Ext m H m' H' → Rep Z m' h H' → RVs Z.K m' H' vs xs → Q xs H'
  | _ => False
def PostP (Z : Ev) (m : List Addr) (H : Hp) (r : R (Option Int)) (Q : Option Int → Hp → Prop) : Prop := match r with
  | .ok o h => ∀ m' H', Ext m H m' H' → Rep Z m' h H' → Q o H'
  | _ => False
def PostH (Z : Ev) (m : List Addr) (H : Hp) (o : Option Hs) (Q : Hp → Prop) : Prop := match o with
  | some h => ∀ m' H', Ext m H m' H' → Rep Z m' h H' → Q H'
  | none => False
section
variable {Z : Ev} {m : List Addr} {H : Hp} {h : Hs} {Q : VK}
theorem Post.of {v : Val} {x : V} (p : Post Z m H (.ok v h) Q) (r : Rep Z m h H) (rv : RV Z.K m H v x) : Q x H := p m H x (Ext.refl m H) r rv
theorem Post.mkNew {ob : Ob} {p : Addr} {o : HO} (q : Post Z m H (MP.new ob h) Q) (r : Rep Z m h H) (hp : H p = none) (w : ObR Z (m ++ [p]) (upd H p o) p ob) : Q (.ref p) (upd H p o) :=
  q (m ++ [p]) (upd H p o) (.ref p) (ext_new hp) (r.new hp w) (.ref (by rw [← r.len]; simp))
/-- a tuple made -/
theorem Post.tup {vs : List Val} {xs : List V} {p : Addr} (q : Post Z m H (.ok (.tup vs) h) Q) (r : Rep Z m h H) (hp : H p = none) (rv : RVs Z.K m H vs xs) : Q (.ref p) (upd H p (.tup xs)) :=
  q m (upd H p (.tup xs)) (.ref p) (ext_new0 hp) (r.lay hp) (.tup (SqT.of upd_same) (RVs.mono (ext_new0 hp) _ _ rv))
theorem Post.lst {vs : List Val} {xs : List V} {p : Addr} (q : Post Z m H (MP.new (.lst vs) h) Q) (r : Rep Z m h H) (hp : H p = none) (rv : RVs Z.K m H vs xs) : Q (.ref p) (upd H p (.lst xs)) :=
  q.mkNew r hp ⟨xs, upd_same, RVs.mono (ext_new hp) _ _ rv⟩
theorem Post.mono {m1 : List Addr} {H1 : Hp} {r : R Val} {Q' : VK} (p : Post Z m H r Q) (e : Ext m H m1 H1) (hq : ∀ x H, Q x H → Q' x H) : Post Z m1 H1 r Q' := by
  cases r with
  | ok v h => exact fun m' H' x e' r rv => hq _ _ (p m' H' x (e.trans e') r rv)
  | exc _ _ _ => exact p
  | stk => exact p
end
end MP

set_option Elab.async false
set_option linter.all false
set_option maxRecDepth 100000
set_option maxHeartbeats 1000000
set_option autoImplicit false
/-! MPc: operators, comparisons, truth, subscripts. -/
namespace MP
open PySem PySem.Spec PyProof.Rows L2

abbrev zz (X : Cx) (nm : List Str) (ca : Nat → Addr) : Ev := ⟨X.K, nm, ca⟩
def rBin (Z : Ev) (f : Val → Val → Hs → R Val) : R2 := fun x y H Q => ∃ m h a b, Rep Z m h H ∧ RV Z.K m H a x ∧ RV Z.K m H b y ∧ Post Z m H (f a b h) Q
section
variable {X : Cx} {nm : List Str} {ca : Nat → Addr}

theorem two63 : (1048576 : Int) < 2 ^ 63 := by decide
theorem op_bin (op : Operator) : OpR X (binaryOp op) (rBin (zz X nm ca) (binF op)) := by
  intro pins s σ H x y v u Q I rx ry hq
  obtain ⟨m, h, a, b, r, ra, rb, p⟩ := hq
  cases op with
  | Add =>
    cases ra with
    | int i =>
      cases rb with
      | int j => exact op_add pins s σ H _ _ v u Q I rx ry ⟨i, j, rfl, rfl, p.of r (.int _)⟩
      | _ => exact False.elim p
    | str i =>
      cases rb with
      | str j =>
        simp only [binF] at p
        split at p
        · rename_i hc
          refine op_add_str pins s σ H _ _ v u Q I rx ry ⟨mk i, mk j, rfl, rfl, by rw [mk_len, mk_len, lim_eq]; exact hc, ?_⟩
          have e : mk i ++ mk j = mk (i ++ j) := by
            show (⟨i.toArray ++ j.toArray⟩ : Str) = _
            simp [mk]
          rw [e]
          exact p.of r (.str _)
        · exact False.elim p
      | _ => exact False.elim p
    | @tup a1 xs vs h1 h2 =>
      cases rb with
      | @tup a2 ys ws h3 h4 =>
        simp only [binF] at p
        split at p
        · rename_i hc
          have l1 := h2.len
          have l2 := h4.len
          refine op_catA pins s σ H _ _ v u Q I rx ry ⟨a1, a2, xs, ys, rfl, rfl, h1, h3, by rw [lim_eq]; omega, fun e => ?_, fun _ e => ?_, fun _ _ t ht => ?_⟩
          · subst e
            cases h2
            exact p.of r (.tup h3 h4)
          · subst e
            cases h4
            rw [List.append_nil] at p
            exact p.of r (.tup h1 h2)
          · exact p.tup r ht (h2.append h4)
        · exact False.elim p
      | _ => exact False.elim p
    | @ref n a1 h1 =>
      cases rb with
      | @ref k a2 h2 =>
        simp only [binF] at p
        split at p
        · rename_i i j e1 e2
          split at p
          · rename_i hc
            obtain ⟨xs, q1, w1⟩ := r.lst h1 e1
            obtain ⟨ys, q2, w2⟩ := r.lst h2 e2
            have l1 := w1.len
            have l2 := w2.len
            exact op_cat pins s σ H _ _ v u Q I rx ry ⟨a1, a2, xs, ys, rfl, rfl, q1, q2, by rw [lim_eq]; omega, fun t ht => p.lst r ht (w1.append w2)⟩
          · exact False.elim p
        · exact False.elim p
      | _ => exact False.elim p
    | _ => exact False.elim p
  | Sub =>
    cases ra with
    | int i =>
      cases rb with
      | int j => exact op_sub pins s σ H _ _ v u Q I rx ry ⟨i, j, rfl, rfl, p.of r (.int _)⟩
      | _ => exact False.elim p
    | _ => exact False.elim p
  | Mult =>
    cases ra with
    | int i =>
      cases rb with
      | int j =>
        simp only [binF] at p
        split at p
        · rename_i hc
          exact op_mulW pins s σ H _ _ v u Q I rx ry ⟨i, j, rfl, rfl, hc, p.of r (.int _)⟩
        · exact False.elim p
      | _ => exact False.elim p
    | @ref n a1 h1 =>
      cases rb with
      | int k =>
        simp only [binF] at p
        split at p
        · rename_i i e1
          split at p
          · rename_i hc
            obtain ⟨xs, q1, w1⟩ := r.lst h1 e1
            have l1 := w1.len
            have t63 := two63
            refine op_rep pins s σ H _ _ v u Q I rx ry ⟨a1, k, xs, rfl, rfl, q1, by omega, by omega, by rw [lim_eq, ← l1]; exact hc.2.2, fun t ht => p.lst r ht (w1.rep _)⟩
          · exact False.elim p
        · exact False.elim p
      | _ => exact False.elim p
    | _ => exact False.elim p
  | FloorDiv =>
    cases ra with
    | int i =>
      cases rb with
      | int j =>
        simp only [binF] at p
        split at p
        · rename_i hc
          exact op_fdivW pins s σ H _ _ v u Q I rx ry ⟨i, j, rfl, rfl, hc, p.of r (.int _)⟩
        · exact False.elim p
      | _ => exact False.elim p
    | _ => exact False.elim p
  | Mod =>
    cases ra with
    | int i =>
      cases rb with
      | int j =>
        simp only [binF] at p
        split at p
        · rename_i hc
          exact op_mod pins s σ H _ _ v u Q I rx ry ⟨i, j, rfl, rfl, hc, p.of r (.int _)⟩
        · exact False.elim p
      | _ => exact False.elim p
    | _ => exact False.elim p
  | Pow =>
    cases ra with
    | int i =>
      cases rb with
      | int j =>
        simp only [binF] at p
        split at p
        · rename_i hc
          exact op_pow pins s σ H _ _ v u Q I rx ry ⟨i, j, rfl, rfl, hc, p.of r (.int _)⟩
        · exact False.elim p
      | _ => exact False.elim p
    | _ => exact False.elim p
  | LShift =>
    cases ra with
    | int i =>
      cases rb with
      | int j =>
        simp only [binF] at p
        split at p
        · rename_i hc
          exact op_shl pins s σ H _ _ v u Q I rx ry ⟨i, j, rfl, rfl, hc, p.of r (.int _)⟩
        · exact False.elim p
      | _ => exact False.elim p
    | _ => exact False.elim p
  | RShift =>
    cases ra with
    | int i =>
      cases rb with
      | int j =>
        simp only [binF] at p
        split at p
        · rename_i hc
          exact op_shr pins s σ H _ _ v u Q I rx ry ⟨i, j, rfl, rfl, hc, p.of r (.int _)⟩
        · exact False.elim p
      | _ => exact False.elim p
    | _ => exact False.elim p
  | BitAnd =>
    cases ra with
    | int i =>
      cases rb with
      | int j => exact op_and pins s σ H _ _ v u Q I rx ry ⟨i, j, rfl, rfl, p.of r (.int _)⟩
      | _ => exact False.elim p
    | _ => exact False.elim p
  | BitOr =>
    cases ra with
    | int i =>
      cases rb with
      | int j => exact op_or pins s σ H _ _ v u Q I rx ry ⟨i, j, rfl, rfl, p.of r (.int _)⟩
      | _ => exact False.elim p
    | _ => exact False.elim p
  | BitXor =>
    cases ra with
    | int i =>
      cases rb with
      | int j => exact op_xor pins s σ H _ _ v u Q I rx ry ⟨i, j, rfl, rfl, p.of r (.int _)⟩
      | _ => exact False.elim p
    | _ => exact False.elim p
  | MatMult => exact False.elim p
  | Div => exact False.elim p

/-! ### data -/
theorem dat_ok {Z : Ev} {m : List Addr} {h : Hs} {H : Hp} (r : Rep Z m h H) : ∀ (n : Nat) (v : Val) (x : V) (d : PyData), RV Z.K m H v x → dat h n v = some d → Dp Z.K H x d := by
  intro n
  induction n with
  | zero => intro v x d _ e; simp [dat] at e
  | succ n ih =>
    have all : ∀ (vs : List Val) (xs : List V) (ds : List PyData), RVs Z.K m H vs xs → oall (dat h n) vs = some ds → DpAll Z.K H xs ds := by
      intro vs
      induction vs with
      | nil =>
        intro xs ds hr e
        cases hr
        simp [oall] at e
        subst e
        exact .nil
      | cons v vs ihv =>
        intro xs ds hr e
        cases hr with
        | cons h1 h2 =>
          simp only [oall] at e
          split at e
          · rename_i d1 ds1 e1 e2
            cases e
            exact .cons (ih _ _ _ h1 e1) (ihv _ _ h2 e2)
          · cases e
    intro v x d rv e
    cases rv with
    | non => simp [dat] at e; subst e; exact .non
    | bl b => simp [dat] at e; subst e; exact .bl b
    | int i => simp [dat] at e; subst e; exact .int i
    | str i => simp [dat] at e; subst e; exact .str _
    | @tup a xs vs h1 h2 =>
      simp only [dat, Option.map_eq_some_iff] at e
      obtain ⟨ds, e1, e2⟩ := e
      subst e2
      exact .tup h1 (all _ _ _ h2 e1)
    | @ref k a h1 =>
      simp only [dat] at e
      split at e
      · rename_i vs q
        simp only [Option.map_eq_some_iff] at e
        obtain ⟨ds, e1, e2⟩ := e
        subst e2
        obtain ⟨xs, z1, z2⟩ := r.seqL h1 (.inl q)
        exact .lst z1 (all _ _ _ z2 e1)
      · rename_i vs q
        simp only [Option.map_eq_some_iff] at e
        obtain ⟨ds, e1, e2⟩ := e
        subst e2
        obtain ⟨xs, z1, z2⟩ := r.seqL h1 (.inr q)
        exact .lst z1 (all _ _ _ z2 e1)
      · cases e
theorem dats_ok {Z : Ev} {m : List Addr} {h : Hs} {H : Hp} (r : Rep Z m h H) (n : Nat) : ∀ (vs : List Val) (xs : List V) (ds : List PyData), RVs Z.K m H vs xs → oall (dat h n) vs = some ds → DpAll Z.K H xs ds := by
  intro vs
  induction vs with
  | nil =>
    intro xs ds hr e
    cases hr
    simp [oall] at e
    subst e
    exact .nil
  | cons v vs ihv =>
    intro xs ds hr e
    cases hr with
    | cons h1 h2 =>
      simp only [oall] at e
      split at e
      · rename_i d1 ds1 e1 e2
        cases e
        exact .cons (dat_ok r n _ _ _ h1 e1) (ihv _ _ h2 e2)
      · cases e
/-- == by data, as MP tells it -/
theorem eq_deq {Z : Ev} {m : List Addr} {h : Hs} {H : Hp} {a b : Val} {x y : V} {k : Bool} (r : Rep Z m h H) (ra : RV Z.K m H a x) (rb : RV Z.K m H b y) (e : deq h a b = some k) :
    ∃ d d', Dp Z.K H x d ∧ Dp Z.K H y d' ∧ SeqAt.shaped d = true ∧ SeqAt.shaped d' = true ∧ PyData.eqv d d' = k := by
  unfold deq at e
  split at e
  · rename_i d d' e1 e2
    split at e
    · rename_i hc
      exact ⟨d, d', dat_ok r _ _ _ _ ra e1, dat_ok r _ _ _ _ rb e2, hc.1, hc.2, Option.some.inj e⟩
    · cases e
  · cases e
/-- == -/
theorem eq_eqF {Z : Ev} {m : List Addr} {h : Hs} {H : Hp} {a b : Val} {x y : V} {k : Bool} (r : Rep Z m h H) (ra : RV Z.K m H a x) (rb : RV Z.K m H b y) (e : eqF h a b = some k) :
    (scal x y = true ∧ decide (x = y) = k) ∨ ∃ d d', Dp Z.K H x d ∧ Dp Z.K H y d' ∧ SeqAt.shaped d = true ∧ SeqAt.shaped d' = true ∧ PyData.eqv d d' = k := by
  cases ra with
  | non =>
    cases rb with
    | non => left; simp [eqF] at e; subst e; exact ⟨rfl, by simp⟩
    | int j => left; simp [eqF] at e; subst e; exact ⟨rfl, by simp⟩
    | bl j => left; simp [eqF] at e; subst e; exact ⟨rfl, by simp⟩
    | str j => left; simp [eqF] at e; subst e; exact ⟨rfl, by simp⟩
    | tup h1 h2 => exact .inr (eq_deq r .non (.tup h1 h2) e)
    | ref h1 => exact .inr (eq_deq r .non (.ref h1) e)
  | int i =>
    cases rb with
    | non => left; simp [eqF] at e; subst e; exact ⟨rfl, by simp⟩
    | int j => left; simp only [eqF, Option.some.injEq] at e; subst e; exact ⟨rfl, by simp⟩
    | bl j => exact .inr (eq_deq r (.int i) (.bl j) e)
    | str j => left; simp [eqF] at e; subst e; exact ⟨rfl, by simp⟩
    | tup h1 h2 => exact .inr (eq_deq r (.int i) (.tup h1 h2) e)
    | ref h1 => exact .inr (eq_deq r (.int i) (.ref h1) e)
  | bl i =>
    cases rb with
    | non => left; simp [eqF] at e; subst e; exact ⟨rfl, by simp⟩
    | int j => exact .inr (eq_deq r (.bl i) (.int j) e)
    | bl j => left; simp only [eqF, Option.some.injEq] at e; subst e; exact ⟨rfl, by simp⟩
    | str j => left; simp [eqF] at e; subst e; exact ⟨rfl, by simp⟩
    | tup h1 h2 => exact .inr (eq_deq r (.bl i) (.tup h1 h2) e)
    | ref h1 => exact .inr (eq_deq r (.bl i) (.ref h1) e)
  | str i =>
    cases rb with
    | non => left; simp [eqF] at e; subst e; exact ⟨rfl, by simp⟩
    | int j => left; simp [eqF] at e; subst e; exact ⟨rfl, by simp⟩
    | bl j => left; simp [eqF] at e; subst e; exact ⟨rfl, by simp⟩
    | str j =>
      left
      simp only [eqF, Option.some.injEq] at e
      subst e
      refine ⟨rfl, ?_⟩
      by_cases hij : i = j
      · rw [hij]; simp
      · rw [decide_eq_false hij, decide_eq_false]
        intro z
        exact hij (mk_inj.mp (V.str.inj z))
    | tup h1 h2 => exact .inr (eq_deq r (.str i) (.tup h1 h2) e)
    | ref h1 => exact .inr (eq_deq r (.str i) (.ref h1) e)
  | tup h1 h2 => exact .inr (eq_deq r (.tup h1 h2) rb e)
  | ref h1 => exact .inr (eq_deq r (.ref h1) rb e)

/-! ### dicts by keys -/
theorem DR.get {K : PySem.W.Frag} {m : List Addr} {H : Hp} (k : Ky) : ∀ {r : List (Ky × Val)} {s : List (Key × V)}, DR K m H r s → (∀ v, dget r k = some v → ∃ x, valV s (kyK k) = some x ∧ RV K m H v x) ∧ (dget r k = none → valV s (kyK k) = none)
  | _, _, .nil => ⟨fun v e => by simp [dget] at e, fun _ => rfl⟩
  | _, _, .cons (k := k1) (v := v1) (x := x1) (r := r) (s := s) a b => by
    obtain ⟨i1, i2⟩ := DR.get k b
    by_cases hk : k1 = k
    · subst hk
      have e1 : dget ((k1, v1) :: r) k1 = some v1 := by simp [dget]
      have e2 : valV ((kyK k1, x1) :: s) (kyK k1) = some x1 := valV_pos rfl
      rw [e1, e2]
      exact ⟨fun v e => ⟨x1, rfl, by cases e; exact a⟩, fun e => by cases e⟩
    · have e1 : dget ((k1, v1) :: r) k = dget r k := by simp [dget, List.find?_cons, hk]
      have e2 : valV ((kyK k1, x1) :: s) (kyK k) = valV s (kyK k) := valV_neg fun z => hk (kyK_inj.mp z)
      rw [e1, e2]
      exact ⟨i1, i2⟩
theorem DR.isSome {K : PySem.W.Frag} {m : List Addr} {H : Hp} {k : Ky} {r : List (Ky × Val)} {s : List (Key × V)} (d : DR K m H r s) : (valV s (kyK k)).isSome = (dget r k).isSome := by
  obtain ⟨i1, i2⟩ := d.get k
  cases e : dget r k with
  | none => rw [i2 e]; rfl
  | some v => obtain ⟨x, q, _⟩ := i1 v e; rw [q]; rfl
theorem DR.len {K : PySem.W.Frag} {m : List Addr} {H : Hp} : ∀ {r : List (Ky × Val)} {s : List (Key × V)}, DR K m H r s → s.length = r.length
  | _, _, .nil => rfl
  | _, _, .cons a b => by simp [b.len]
theorem DR.any {K : PySem.W.Frag} {m : List Addr} {H : Hp} {k : Ky} : ∀ {r : List (Ky × Val)} {s : List (Key × V)}, DR K m H r s → (s.any fun kv => decide (kv.1 = kyK k)) = r.any fun kv => decide (kv.1 = k)
  | _, _, .nil => rfl
  | _, _, .cons (k := k1) a b => by
    rw [List.any_cons, List.any_cons, b.any]
    congr 1
    by_cases hk : k1 = k
    · subst hk; simp
    · rw [decide_eq_false hk, decide_eq_false]
      exact fun z => hk (kyK_inj.mp z)
theorem DR.repl {K : PySem.W.Frag} {m : List Addr} {H : Hp} {k : Ky} {v : Val} {x : V} (rv : RV K m H v x) : ∀ {r : List (Ky × Val)} {s : List (Key × V)}, DR K m H r s → DR K m H (r.map fun kv => if kv.1 = k then (kv.1, v) else kv) (s.map fun kv => if kv.1 = kyK k then (kv.1, x) else kv)
  | _, _, .nil => .nil
  | _, _, .cons (k := k1) a b => by
    rw [List.map_cons, List.map_cons]
    by_cases hk : k1 = k
    · subst hk
      rw [if_pos rfl, if_pos rfl]
      exact .cons rv (DR.repl rv b)
    · rw [if_neg hk, if_neg (fun z => hk (kyK_inj.mp z))]
      exact .cons a (DR.repl rv b)
theorem DR.snoc {K : PySem.W.Frag} {m : List Addr} {H : Hp} {k : Ky} {v : Val} {x : V} (rv : RV K m H v x) : ∀ {r : List (Ky × Val)} {s : List (Key × V)}, DR K m H r s → DR K m H (r ++ [(k, v)]) (s ++ [(kyK k, x)])
  | _, _, .nil => .cons rv .nil
  | _, _, .cons a b => .cons a (DR.snoc rv b)
theorem DR.put {K : PySem.W.Frag} {m : List Addr} {H : Hp} {k : Ky} {v : Val} {x : V} {r : List (Ky × Val)} {s : List (Key × V)} (d : DR K m H r s) (rv : RV K m H v x) : DR K m H (dput r k v) (putK s (kyK k) x) := by
  unfold dput putK
  rw [d.any]
  split
  · exact d.repl rv
  · exact d.snoc rv
theorem DR.del {K : PySem.W.Frag} {m : List Addr} {H : Hp} {k : Ky} : ∀ {r : List (Ky × Val)} {s : List (Key × V)}, DR K m H r s → DR K m H (ddel r k) (dropK s (kyK k))
  | _, _, .nil => .nil
  | _, _, .cons (k := k1) (v := v1) (x := x1) (r := r) (s := s) a b => by
    have ih := DR.del (k := k) b
    unfold ddel dropK at ih ⊢
    rw [List.filter_cons, List.filter_cons]
    by_cases hk : k1 = k
    · subst hk
      rw [if_neg (by simp), if_neg (by simp)]
      exact ih
    · rw [if_pos (by simpa using hk), if_pos (by simpa using fun z => hk (kyK_inj.mp z))]
      exact .cons a ih
theorem toKy_rv {K : PySem.W.Frag} {m : List Addr} {H : Hp} {v : Val} {x : V} {k : Ky} (rv : RV K m H v x) (e : toKy v = some k) : x = kV (kyK k) := by
  cases rv with
  | int i => cases e; rfl
  | str s => cases e; rfl
  | _ => cases e
theorem Rep.dct {Z : Ev} {m : List Addr} {h : Hs} {H : Hp} (r : Rep Z m h H) {n : Nat} {a : Addr} {kvs : List (Ky × Val)} (hn : m[n]? = some a) (hb : h[n]? = some (.dct kvs)) : ∃ kxs, H a = some (.dK kxs) ∧ DR Z.K m H kvs kxs := r.at_ hn hb
theorem dctOf_rv {Z : Ev} {m : List Addr} {h : Hs} {H : Hp} {v : Val} {x : V} {kvs : List (Ky × Val)} (r : Rep Z m h H) (rv : RV Z.K m H v x) (e : dctOf h v = some kvs) : ∃ a kxs, x = .ref a ∧ H a = some (.dK kxs) ∧ DR Z.K m H kvs kxs := by
  cases rv with
  | @ref n a h1 =>
    simp only [dctOf] at e
    split at e
    · rename_i kv q
      cases e
      obtain ⟨kxs, z1, z2⟩ := r.dct h1 q
      exact ⟨a, kxs, rfl, z1, z2⟩
    · cases e
  | _ => cases e

/-! ### in -/
def rDIn (neg : Bool) : R2 := fun x y H Q => ∃ a o, y = .ref a ∧ DGet H a x o ∧ Q (.bl (if neg then !o.isSome else o.isSome)) H
theorem op_din (hu : X.A.units + 1 < cLine) : OpR X (compareOp .In) (rDIn false) := by
  intro pins s σ H x y v u Q I rx ry h
  obtain ⟨a, o, rfl, g, q⟩ := h
  cases ry
  exact d_in hu I g rx fun s' I' => ⟨.bl o.isSome, H, I', rfl, q⟩
theorem op_dnin (hu : X.A.units + 1 < cLine) : OpR X (compareOp .NotIn) (rDIn true) := by
  intro pins s σ H x y v u Q I rx ry h
  obtain ⟨a, o, rfl, g, q⟩ := h
  cases ry
  exact d_notIn hu I g rx fun s' I' => ⟨.bl (!o.isSome), H, I', rfl, q⟩

theorem flat_rv {K : PySem.W.Frag} {m : List Addr} {H : Hp} {v : Val} {x : V} (rv : RV K m H v x) (e : flat v = true) : flatV x = true := by
  cases rv <;> first | rfl | (simp [flat] at e)
theorem eqW_rv {K : PySem.W.Frag} {m : List Addr} {H : Hp} {v w : Val} {x y : V} (rv : RV K m H v x) (rw_ : RV K m H w y) (e : flat v = true) (e' : flat w = true) : eqV x y = eqW v w := by
  cases rv <;> cases rw_ <;> first
    | rfl
    | (simp [flat] at e; done)
    | (simp [flat] at e'; done)
    | (simp only [eqV, eqW]
       first
         | (rw [Bool.eq_iff_iff]; simp [mk_inj]; done)
         | (simp [mk_inj]; done))
theorem flats_rv {K : PySem.W.Frag} {m : List Addr} {H : Hp} : ∀ {vs : List Val} {xs : List V}, RVs K m H vs xs → vs.all flat = true → xs.all flatV = true
  | [], _, h, _ => by cases h; rfl
  | v :: vs, _, h, e => by
    cases h with
    | cons h1 h2 =>
      rw [List.all_cons, Bool.and_eq_true] at e ⊢
      exact ⟨flat_rv h1 e.1, flats_rv h2 e.2⟩
theorem any_rv {K : PySem.W.Frag} {m : List Addr} {H : Hp} {w : Val} {y : V} (rw_ : RV K m H w y) (fw : flat w = true) : ∀ {vs : List Val} {xs : List V}, RVs K m H vs xs → vs.all flat = true → inV y xs = vs.any fun z => eqW z w
  | [], _, h, _ => by cases h; rfl
  | v :: vs, _, h, e => by
    cases h with
    | cons h1 h2 =>
      rw [List.all_cons, Bool.and_eq_true] at e
      show (eqV _ y || inV y _) = (eqW v w || _)
      rw [eqW_rv h1 rw_ e.1 fw, any_rv rw_ fw h2 e.2]
/-- what in says of two values -/
def InP (Z : Ev) (m : List Addr) (H : Hp) (x y : V) (k : Bool) : Prop :=
  (∃ (c : Nat) (z : Str), x = .str ⟨#[c]⟩ ∧ y = .str z ∧ decide (c ∈ z.cps.toList) = k) ∨ (∃ a o, y = .ref a ∧ DGet H a x o ∧ o.isSome = k) ∨
  (∃ p xs, y = .ref p ∧ (SqL Z.K H p xs ∨ SqT Z.K H p xs) ∧ flatV x = true ∧ xs.all flatV = true ∧ inV x xs = k) ∨
  (∃ d ds, Dp Z.K H x d ∧ Dp Z.K H y (.list ds) ∧ SeqAt.shaped d = true ∧ SeqAt.shaped (.list ds) = true ∧ (ds.any fun z => PyData.eqv z d) = k) ∨
  (∃ d ds, Dp Z.K H x d ∧ Dp Z.K H y (.tuple ds) ∧ SeqAt.shaped d = true ∧ SeqAt.shaped (.list ds) = true ∧ (ds.any fun z => PyData.eqv z d) = k)
theorem op_inDT {X : Cx} (hu : X.A.units + 65 < cLine) : OpR X (compareOp .In) (fun x y H Q => ∃ d ds, Dp X.K H x d ∧ Dp X.K H y (.tuple ds) ∧ SeqAt.shaped d = true ∧ SeqAt.shaped (.list ds) = true ∧ Q (.bl (ds.any fun z => PyData.eqv z d)) H) := by
  intro pins s σ H x y v u Q I rx ry h
  obtain ⟨d, ds, hd, he, sd, se, q⟩ := h
  obtain ⟨as, r1⟩ := Dp.reads I d x v hd rx
  obtain ⟨bs, r2⟩ := Dp.reads I (.tuple ds) y u he ry
  exact SeqAt.in_tuple_reads r2 r1 (SeqAt.canLay_of_shaped se) (SeqAt.canLay_of_shaped sd) (room_in_shaped sd hu) ⟨.bl _, H, I, rfl, q⟩
theorem op_notInDT {X : Cx} (hu : X.A.units + 65 < cLine) : OpR X (compareOp .NotIn) (fun x y H Q => ∃ d ds, Dp X.K H x d ∧ Dp X.K H y (.tuple ds) ∧ SeqAt.shaped d = true ∧ SeqAt.shaped (.list ds) = true ∧ Q (.bl (!ds.any fun z => PyData.eqv z d)) H) := by
  intro pins s σ H x y v u Q I rx ry h
  obtain ⟨d, ds, hd, he, sd, se, q⟩ := h
  obtain ⟨as, r1⟩ := Dp.reads I d x v hd rx
  obtain ⟨bs, r2⟩ := Dp.reads I (.tuple ds) y u he ry
  exact SeqAt.notIn_tuple_reads r2 r1 (SeqAt.canLay_of_shaped se) (SeqAt.canLay_of_shaped sd) (room_in_shaped sd hu) ⟨.bl _, H, I, rfl, q⟩
theorem inF_ok {Z : Ev} {m : List Addr} {h : Hs} {H : Hp} {a b : Val} {x y : V} {k : Bool} (r : Rep Z m h H) (ra : RV Z.K m H a x) (rb : RV Z.K m H b y) (e : inF h a b = some k) : InP Z m H x y k := by
  have gen : inGen h a b = some k → InP Z m H x y k := by
    intro e
    unfold inGen at e
    split at e
    · rename_i kvs q
      rw [Option.map_eq_some_iff] at e
      obtain ⟨ky, e1, e2⟩ := e
      obtain ⟨p, kxs, z1, z2, z3⟩ := dctOf_rv r rb q
      refine .inr (.inl ⟨p, valV kxs (kyK ky), z1, ?_, ?_⟩)
      · rw [toKy_rv ra e1]
        exact DGet.k z2
      · rw [z3.isSome]
        exact e2
    · split at e
      · rename_i vs hs
        unfold inSq at e
        split at e
        · rename_i hc
          obtain ⟨p, xs, e1, e2, e3⟩ := r.seq rb hs
          refine .inr (.inr (.inl ⟨p, xs, e1, e2, flat_rv ra hc.1, flats_rv e3 hc.2, ?_⟩))
          rw [any_rv ra hc.1 e3 hc.2]
          exact Option.some.inj e
        · cases rb with
          | @ref n p hn =>
            simp only [inDeep] at e
            split at e
            · rename_i d ds e1 e2
              split at e
              · rename_i hc
                obtain ⟨xs, z1, z2⟩ : ∃ xs, SqL Z.K H p xs ∧ RVs Z.K m H vs xs := by
                  simp only [seqOf] at hs
                  split at hs
                  · rename_i ws q
                    cases hs
                    exact r.seqL hn (.inl q)
                  · rename_i ws q
                    cases hs
                    exact r.seqL hn (.inr q)
                  · cases hs
                exact .inr (.inr (.inr (.inl ⟨d, ds, dat_ok r _ _ _ _ ra e1, .lst z1 (dats_ok r _ _ _ _ z2 e2), hc.1, hc.2, Option.some.inj e⟩)))
              · cases e
            · cases e
          | tup hq rvs =>
            simp only [inDeep] at e
            split at e
            · rename_i d ds e1 e2
              split at e
              · rename_i hc
                have e9 := Option.some.inj e
                have hs2 := Option.some.inj hs
                subst hs2
                exact .inr (.inr (.inr (.inr ⟨d, ds, dat_ok r _ _ _ _ ra e1, .tup hq (dats_ok r _ _ _ _ rvs e2), hc.1, hc.2, e9⟩)))
              · cases e
            · cases e
          | _ => cases e
      · cases e
  cases b with
  | str s =>
    cases rb
    simp only [inF] at e
    split at e
    · rename_i c
      cases ra
      exact .inl ⟨c, mk s, rfl, rfl, Option.some.inj e⟩
    · cases e
  | non => exact gen e
  | bl _ => exact gen e
  | int _ => exact gen e
  | tup _ => exact gen e
  | ref _ => exact gen e

/-! ### comparisons -/
theorem ltL_ok (i j : List Nat) : ltL i j = decide ((mk i).cps.toList < (mk j).cps.toList) := rfl
theorem op_cmpS (hu : X.A.units + 65 < cLine) (op : CmpOp) : OpR X (compareOp op) (rBin (zz X nm ca) (cmpF op)) := by
  intro pins s σ H x y v u Q I rx ry hq
  obtain ⟨m, h, a, b, r, ra, rb, p⟩ := hq
  cases op with
  | Eq =>
    simp only [cmpF] at p
    cases e : eqF h a b with
    | none => rw [e] at p; exact False.elim p
    | some k =>
      rw [e] at p
      have q := p.of r (.bl k)
      rcases eq_eqF r ra rb e with ⟨e1, e2⟩ | ⟨d, d', e1, e2, e3, e4, e5⟩
      · exact op_eq pins s σ H _ _ v u Q I rx ry ⟨e1, by rw [e2]; exact q⟩
      · exact op_eqD (by omega) pins s σ H _ _ v u Q I rx ry ⟨d, d', e1, e2, e3, e4, by rw [e5]; exact q⟩
  | NotEq =>
    simp only [cmpF] at p
    cases e : eqF h a b with
    | none => rw [e] at p; exact False.elim p
    | some k =>
      rw [e] at p
      have q := p.of r (.bl (!k))
      rcases eq_eqF r ra rb e with ⟨e1, e2⟩ | ⟨d, d', e1, e2, e3, e4, e5⟩
      · exact op_ne pins s σ H _ _ v u Q I rx ry ⟨e1, by rw [e2]; exact q⟩
      · exact op_neD (by omega) pins s σ H _ _ v u Q I rx ry ⟨d, d', e1, e2, e3, e4, by rw [e5]; exact q⟩
  | Lt =>
    cases ra with
    | int i =>
      cases rb with
      | int j => exact op_lt pins s σ H _ _ v u Q I rx ry ⟨i, j, rfl, rfl, p.of r (.bl _)⟩
      | _ => exact False.elim p
    | str i =>
      cases rb with
      | str j => exact op_lt_str pins s σ H _ _ v u Q I rx ry ⟨mk i, mk j, rfl, rfl, p.of r (.bl _)⟩
      | _ => exact False.elim p
    | _ => exact False.elim p
  | LtE =>
    cases ra with
    | int i =>
      cases rb with
      | int j => exact op_le pins s σ H _ _ v u Q I rx ry ⟨i, j, rfl, rfl, p.of r (.bl _)⟩
      | _ => exact False.elim p
    | str i =>
      cases rb with
      | str j => exact op_le_str pins s σ H _ _ v u Q I rx ry ⟨mk i, mk j, rfl, rfl, p.of r (.bl _)⟩
      | _ => exact False.elim p
    | _ => exact False.elim p
  | Gt =>
    cases ra with
    | int i =>
      cases rb with
      | int j => exact op_gt pins s σ H _ _ v u Q I rx ry ⟨i, j, rfl, rfl, p.of r (.bl _)⟩
      | _ => exact False.elim p
    | str i =>
      cases rb with
      | str j => exact op_gt_str pins s σ H _ _ v u Q I rx ry ⟨mk i, mk j, rfl, rfl, p.of r (.bl _)⟩
      | _ => exact False.elim p
    | _ => exact False.elim p
  | GtE =>
    cases ra with
    | int i =>
      cases rb with
      | int j => exact op_ge pins s σ H _ _ v u Q I rx ry ⟨i, j, rfl, rfl, p.of r (.bl _)⟩
      | _ => exact False.elim p
    | str i =>
      cases rb with
      | str j => exact op_ge_str pins s σ H _ _ v u Q I rx ry ⟨mk i, mk j, rfl, rfl, p.of r (.bl _)⟩
      | _ => exact False.elim p
    | _ => exact False.elim p
  | Is =>
    cases rb with
    | non =>
      refine op_isN pins s σ H _ _ v u Q I rx ry ⟨rfl, ?_⟩
      cases ra with
      | non => exact p.of r (.bl true)
      | bl _ => exact p.of r (.bl false)
      | int _ => exact p.of r (.bl false)
      | str _ => exact p.of r (.bl false)
      | tup _ _ => exact p.of r (.bl false)
      | ref _ => exact p.of r (.bl false)
    | _ => cases a <;> exact False.elim p
  | IsNot =>
    cases rb with
    | non =>
      refine op_notN pins s σ H _ _ v u Q I rx ry ⟨rfl, ?_⟩
      cases ra with
      | non => exact p.of r (.bl false)
      | bl _ => exact p.of r (.bl true)
      | int _ => exact p.of r (.bl true)
      | str _ => exact p.of r (.bl true)
      | tup _ _ => exact p.of r (.bl true)
      | ref _ => exact p.of r (.bl true)
    | _ => cases a <;> exact False.elim p
  | In =>
    simp only [cmpF] at p
    cases e : inF h a b with
    | none => rw [e] at p; exact False.elim p
    | some k =>
      rw [e] at p
      have q := p.of r (.bl k)
      rcases inF_ok r ra rb e with ⟨c, z, e1, e2, e3⟩ | ⟨t, o, e1, e2, e3⟩ | ⟨t, xs, e1, e2, e3, e4, e5⟩ | ⟨d, ds, e1, e2, e3, e4, e5⟩ | ⟨d, ds, e1, e2, e3, e4, e5⟩
      · exact op_in_sign pins s σ H _ _ v u Q I rx ry ⟨c, z, e1, e2, by rw [e3]; exact q⟩
      · exact op_din (by omega) pins s σ H _ _ v u Q I rx ry ⟨t, o, e1, e2, by rw [if_neg (by simp), e3]; exact q⟩
      · exact op_in_seq pins s σ H _ _ v u Q I rx ry ⟨t, xs, e1, e2, e3, e4, by rw [if_neg (by simp), e5]; exact q⟩
      · exact op_inD hu pins s σ H _ _ v u Q I rx ry ⟨d, ds, e1, e2, e3, e4, by rw [e5]; exact q⟩
      · exact op_inDT hu pins s σ H _ _ v u Q I rx ry ⟨d, ds, e1, e2, e3, e4, by rw [e5]; exact q⟩
  | NotIn =>
    simp only [cmpF] at p
    cases e : inF h a b with
    | none => rw [e] at p; exact False.elim p
    | some k =>
      rw [e] at p
      have q := p.of r (.bl (!k))
      rcases inF_ok r ra rb e with ⟨c, z, e1, e2, e3⟩ | ⟨t, o, e1, e2, e3⟩ | ⟨t, xs, e1, e2, e3, e4, e5⟩ | ⟨d, ds, e1, e2, e3, e4, e5⟩ | ⟨d, ds, e1, e2, e3, e4, e5⟩
      · exact op_notIn_sign pins s σ H _ _ v u Q I rx ry ⟨c, z, e1, e2, by rw [e3]; exact q⟩
      · exact op_dnin (by omega) pins s σ H _ _ v u Q I rx ry ⟨t, o, e1, e2, by rw [if_pos rfl, e3]; exact q⟩
      · exact op_notIn_seq pins s σ H _ _ v u Q I rx ry ⟨t, xs, e1, e2, e3, e4, by rw [if_pos rfl, e5]; exact q⟩
      · exact op_notInD hu pins s σ H _ _ v u Q I rx ry ⟨d, ds, e1, e2, e3, e4, by rw [e5]; exact q⟩
      · exact op_notInDT hu pins s σ H _ _ v u Q I rx ry ⟨d, ds, e1, e2, e3, e4, by rw [e5]; exact q⟩

/-! ### truth -/
theorem tru_rv {Z : Ev} {m : List Addr} {h : Hs} {H : Hp} {v : Val} {x : V} {k : Bool} (r : Rep Z m h H) (rv : RV Z.K m H v x) (e : truF h v = some k) : TruV Z.K x H k := by
  cases rv with
  | non => cases e; rfl
  | bl b => cases e; rfl
  | int i => cases e; rfl
  | str s =>
    simp only [truF] at e
    split at e
    · rename_i hc
      cases e
      refine ⟨by rw [mk_len, lim_eq]; exact hc, ?_⟩
      rw [mk_len]
      cases s <;> simp
      omega
    · cases e
  | @tup a xs vs h1 h2 =>
    cases e
    refine .inr (.inl ⟨xs, h1, ?_⟩)
    cases h2 <;> rfl
  | @ref n a h1 =>
    simp only [truF] at e
    split at e
    · rename_i vs q
      cases e
      obtain ⟨xs, z1, z2⟩ := r.seqL h1 (.inl q)
      refine .inl ⟨xs, z1, ?_⟩
      cases z2 <;> rfl
    · rename_i vs q
      cases e
      obtain ⟨xs, z1, z2⟩ := r.seqL h1 (.inr q)
      refine .inl ⟨xs, z1, ?_⟩
      cases z2 <;> rfl
    · rename_i kvs q
      cases e
      obtain ⟨kxs, z1, z2⟩ := r.dct h1 q
      refine .inr (.inr ⟨kxs, z1, ?_⟩)
      cases z2 <;> rfl
    · cases e
end
end MP

set_option Elab.async false
set_option linter.all false
set_option maxRecDepth 100000
set_option maxHeartbeats 1000000
set_option autoImplicit false
/-! MPd: subscripts, slices, stores, fields, built-ins. -/
namespace MP
open PySem PySem.Spec PyProof.Rows L2
section
variable {X : Cx} {nm : List Str} {ca : Nat → Addr}

theorem ix_dict (hu : X.A.units + 1 < cLine) : IxR X (fun x y H Q => ∃ a v, x = .ref a ∧ DGet H a y (some v) ∧ Q v H) := by
  intro value slice pins s σ H x y v u Q I rx ry h hs
  obtain ⟨a, z, rfl, g, q⟩ := h
  obtain rfl : v = Value.ref a := rx
  unfold subscriptTail
  refine wpAny_bind ?_
  have hT := dict_typeIs I g
  rw [getitemInPython_of_ne hT.not_modules]
  refine wpAny_bind (wpAny_specialOf hT PySem.F.slot_dict_getitem.lookup ?_)
  have fin : wpAny (model X.prog X.w) X.A (subscripted slice false (.ref a) u) (fun r s₃ => wpAny (model X.prog X.w) X.A (letTemporaryGo value (.ref a) r >>= fun _ => pure r) (EP X pins σ Q) X.xe s₃) X.xe s := by
    rw [hs]
    exact wpAny_operating (wpAny_mono (d_getItem hu I g ry fun w' s3 I3 rw' => show EP X pins σ Q w' s3 from ⟨z, H, I3, rw', q⟩) (fun r s₃ h₃ => wpAny_bind (wpAny_letTemporaryGo (wpAny_pure h₃))) fun _ _ x => x)
  first
    | exact wpAny_pure (wpAny_bind fin)
    | exact wpAny_bind (wpAny_pure (wpAny_bind fin))
    | exact wpAny_bind fin
theorem atI_rvs {K : PySem.W.Frag} {m : List Addr} {H : Hp} {vs : List Val} {xs : List V} {i : Int} {v : Val} (r : RVs K m H vs xs) (e : atI vs i = some v) : ∃ x, atI xs i = some x ∧ RV K m H v x := by
  unfold atI at e ⊢
  rw [← r.len]
  cases q : ixN vs.length i with
  | none => rw [q] at e; cases e
  | some j =>
    rw [q] at e
    obtain ⟨x, z1, z2⟩ := r.get (i := j) (v := v) e
    exact ⟨x, z1, z2⟩
theorem Post.ofO {Z : Ev} {m : List Addr} {H : Hp} {h : Hs} {Q : VK} {o : Option Val} {x : V} (p : Post Z m H (ofO o h) Q) (r : Rep Z m h H) : ∃ v, o = some v ∧ (RV Z.K m H v x → Q x H) := by
  cases o with
  | none => exact False.elim p
  | some v => exact ⟨v, rfl, fun rv => p.of r rv⟩
theorem ix_S (hu : X.A.units + 65 < cLine) : IxR X (rBin (zz X nm ca) ixF) := by
  intro value slice pins s σ H x y v u Q I rx ry hq hs
  obtain ⟨m, h, a, b, r, ra, rb, p⟩ := hq
  have lst : ∀ (n : Nat) (t : Addr) (vs : List Val), m[n]? = some t → (h[n]? = some (.lst vs) ∨ h[n]? = some (.frz vs)) → x = .ref t → Post (zz X nm ca) m H (ixL vs b h) Q → wpAny (model X.prog X.w) X.A (subscriptTail value slice v u) (EP X pins σ Q) X.xe s := by
    intro n t vs hn hb ex p
    cases rb with
    | int i =>
      simp only [ixL] at p
      cases e : atI vs i with
      | none => rw [e] at p; exact False.elim p
      | some w =>
        rw [e] at p
        obtain ⟨xs, z1, z2⟩ := r.seqL hn hb
        obtain ⟨y', z3, z4⟩ := atI_rvs z2 e
        exact ix_list value slice pins s σ H _ _ v u Q I rx ry ⟨t, xs, i, y', ex, rfl, z1, z3, p.of r z4⟩ hs
    | _ => exact False.elim p
  cases ra with
  | str z =>
    cases rb with
    | int i =>
      simp only [ixF] at p
      split at p
      · rename_i hc
        cases e : atI z i with
        | none => rw [e] at p; exact False.elim p
        | some c =>
          rw [e] at p
          exact ix_str value slice pins s σ H _ _ v u Q I rx ry ⟨mk z, i, c, rfl, rfl, by rw [mk_len, lim_eq]; exact hc, e, p.of r (.str [c])⟩ hs
      · exact False.elim p
    | _ => exact False.elim p
  | @tup t xs vs h1 h2 =>
    cases rb with
    | int i =>
      simp only [ixF] at p
      cases e : atI vs i with
      | none => rw [e] at p; exact False.elim p
      | some w =>
        rw [e] at p
        obtain ⟨y', z3, z4⟩ := atI_rvs h2 e
        exact ix_tup value slice pins s σ H _ _ v u Q I rx ry ⟨t, xs, i, y', rfl, rfl, h1, z3, p.of r z4⟩ hs
    | _ => exact False.elim p
  | @ref n t h1 =>
    simp only [ixF] at p
    split at p
    · rename_i vs q
      exact lst n t vs h1 (.inl q) rfl p
    · rename_i vs q
      exact lst n t vs h1 (.inr q) rfl p
    · rename_i kvs q
      split at p
      · rename_i k e
        obtain ⟨kxs, z1, z2⟩ := r.dct h1 q
        cases e2 : dget kvs k with
        | none => rw [e2] at p; exact False.elim p
        | some w =>
          rw [e2] at p
          obtain ⟨x', z3, z4⟩ := (z2.get k).1 w e2
          refine ix_dict (by omega) value slice pins s σ H _ _ v u Q I rx ry ⟨t, x', rfl, ?_, p.of r z4⟩ hs
          rw [toKy_rv rb e, ← z3]
          exact DGet.k z1
      · exact False.elim p
    · exact False.elim p
  | non => exact False.elim p
  | bl _ => exact False.elim p
  | int _ => exact False.elim p

/-! ### slices -/
theorem cutS_mk (z : List Nat) (lo hi : Option Int) : cutS (mk z) lo hi = mk (cutL z lo hi) := by
  unfold cutS cutL
  rw [mk_len]
theorem sl_S : SlR X (fun x lo hi H Q => ∃ m h a, Rep (zz X nm ca) m h H ∧ RV X.K m H a x ∧ Post (zz X nm ca) m H (slF a lo hi h) Q) := by
  intro pins s σ H x v vl vu lo hi sl Q I rx hs pl pu hq
  obtain ⟨m, h, a, r, ra, p⟩ := hq
  cases ra with
  | str z =>
    simp only [slF] at p
    split at p
    · rename_i hc
      refine sl_str pins s σ H _ v vl vu lo hi sl Q I rx hs pl pu ⟨mk z, rfl, by rw [mk_len, lim_eq]; exact hc, ?_⟩
      rw [cutS_mk]
      exact p.of r (.str _)
    · exact False.elim p
  | @tup t xs vs h1 h2 =>
    refine sl_tupA pins s σ H _ v vl vu lo hi sl Q I rx hs pl pu ⟨t, xs, rfl, h1, fun hw => ?_, fun _ q hq => ?_⟩
    · have e : cutV xs lo hi = xs := by
        unfold cutV
        rw [hw.1, hw.2]
        simp
      refine p.of r (.tup h1 ?_)
      rw [← e]
      exact h2.cut lo hi
    · exact p.tup r hq (h2.cut lo hi)
  | @ref n t h1 =>
    simp only [slF] at p
    split at p
    · rename_i vs q
      obtain ⟨xs, z1, z2⟩ := r.seqL h1 (.inl q)
      exact sl_list pins s σ H _ v vl vu lo hi sl Q I rx hs pl pu ⟨t, xs, rfl, z1, fun q hq => p.lst r hq (z2.cut lo hi)⟩
    · rename_i vs q
      obtain ⟨xs, z1, z2⟩ := r.seqL h1 (.inr q)
      exact sl_list pins s σ H _ v vl vu lo hi sl Q I rx hs pl pu ⟨t, xs, rfl, z1, fun q hq => p.lst r hq (z2.cut lo hi)⟩
    · exact False.elim p
  | non => exact False.elim p
  | bl _ => exact False.elim p
  | int _ => exact False.elim p

/-! ### stores -/
theorem PostH.set {Z : Ev} {m : List Addr} {H : Hp} {h : Hs} {Q : Hp → Prop} {n : Nat} {a : Addr} {o u : HO} {ob ob' : Ob} (p : PostH Z m H (some (h.set n ob')) Q) (r : Rep Z m h H) (hn : m[n]? = some a) (hb : h[n]? = some ob) (hm : ob.mut = true) (hm' : ob'.mut = true)
    (ha : H a = some u) (h1 : ∀ xs, u ≠ .tup xs) (h2 : ∀ x y, u ≠ .frz x y) (w : ObR Z m (upd H a o) a ob') : Q (upd H a o) :=
  p m _ (ext_mut ha h1 h2) (r.set hn hb hm hm' ha h1 h2 w)
theorem Post.set {Z : Ev} {m : List Addr} {H : Hp} {h : Hs} {Q : VK} {n : Nat} {a : Addr} {o u : HO} {ob ob' : Ob} {v : Val} {x : V} (p : Post Z m H (.ok v (h.set n ob')) Q) (r : Rep Z m h H) (rv : RV Z.K m H v x) (hn : m[n]? = some a) (hb : h[n]? = some ob) (hm : ob.mut = true) (hm' : ob'.mut = true)
    (ha : H a = some u) (h1 : ∀ xs, u ≠ .tup xs) (h2 : ∀ x y, u ≠ .frz x y) (w : ObR Z m (upd H a o) a ob') : Q x (upd H a o) :=
  p m _ _ (ext_mut ha h1 h2) (r.set hn hb hm hm' ha h1 h2 w) (RV.mono (ext_mut ha h1 h2) _ _ rv)
theorem ext_lst {m : List Addr} {H : Hp} {a : Addr} {xs : List V} {o : HO} (ha : H a = some (.lst xs)) : Ext m H m (upd H a o) := ext_mut ha (fun _ z => by cases z) fun _ _ z => by cases z
theorem ext_dct {m : List Addr} {H : Hp} {a : Addr} {xs : List (Key × V)} {o : HO} (ha : H a = some (.dK xs)) : Ext m H m (upd H a o) := ext_mut ha (fun _ z => by cases z) fun _ _ z => by cases z
theorem ext_ins {m : List Addr} {H : Hp} {a C dx : Addr} {fs : List (Str × V)} {o : HO} (ha : H a = some (.ins C dx fs)) : Ext m H m (upd H a o) := ext_mut ha (fun _ z => by cases z) fun _ _ z => by cases z
theorem PSet.or {t t' : TSet} (h : PSet X t) (h' : PSet X t') : PSet X (fun o i v H Q => t o i v H Q ∨ t' o i v H Q) := by
  intro pins s σ H o i v ov iv u Q I ro ri rv q
  rcases q with q | q
  · exact h pins s σ H o i v ov iv u Q I ro ri rv q
  · exact h' pins s σ H o i v ov iv u Q I ro ri rv q
theorem set_dict (hu : X.A.units + 1 < cLine) : PSet X (fun o i v H Q => ∃ a H', o = .ref a ∧ DPut H a i v H' ∧ Q H') := by
  intro pins s σ H o i v ov iv u Q I ro ri rv q
  obtain ⟨a, H', rfl, g, q⟩ := q
  obtain rfl : ov = Value.ref a := ro
  exact d_setItem hu I g ri rv fun s' I' => ⟨H', I', q⟩
theorem set_S (hu : X.A.units + 1 < cLine) : PSet X (fun o i v H Q => ∃ m h a b c, Rep (zz X nm ca) m h H ∧ RV X.K m H a o ∧ RV X.K m H b i ∧ RV X.K m H c v ∧ PostH (zz X nm ca) m H (setF a b c h) Q) := by
  intro pins s σ H o i v ov iv u Q I ro ri rv q
  obtain ⟨m, h, a, b, c, r, ra, rb, rc, p⟩ := q
  cases ra with
  | @ref n t h1 =>
    simp only [setF] at p
    split at p
    · rename_i vs q
      cases rb with
      | int k =>
        simp only at p
        split at p
        · rename_i j e
          obtain ⟨xs, z1, z2⟩ := r.lst h1 q
          refine set_list pins s σ H _ _ v ov iv u Q I ro ri rv ⟨t, xs, k, j, rfl, rfl, z1, by rw [← z2.len]; exact e, ?_⟩
          exact p.set r h1 q rfl rfl z1 (fun _ z => by cases z) (fun _ _ z => by cases z) ⟨_, upd_same, RVs.mono (ext_lst z1) _ _ (z2.set j rc)⟩
        · exact False.elim p
      | _ => exact False.elim p
    · rename_i kvs q
      split at p
      · rename_i k e
        split at p
        · rename_i hc
          obtain ⟨kxs, z1, z2⟩ := r.dct h1 q
          refine set_dict hu pins s σ H _ _ v ov iv u Q I ro ri rv ⟨t, upd H t (.dK (putK kxs (kyK k) v)), rfl, ?_, ?_⟩
          · rw [toKy_rv rb e]
            exact DPut.k z1 (by rw [z2.len, lim_eq]; exact hc)
          · exact p.set r h1 q rfl rfl z1 (fun _ z => by cases z) (fun _ _ z => by cases z) ⟨_, upd_same, (z2.put rc).mono (ext_dct z1)⟩
        · exact False.elim p
      · exact False.elim p
    · exact False.elim p
  | _ => exact False.elim p

/-! ### fields -/
theorem fget_cons (f g : Nat) (v : Val) (r : List (Nat × Val)) : fget ((g, v) :: r) f = if f = g then some v else fget r f := by
  unfold fget
  rw [List.lookup_cons]
  by_cases h : f = g
  · subst h; simp
  · rw [if_neg h]
    have : (f == g) = false := by simpa using h
    rw [this]
theorem FR.get {K : PySem.W.Frag} {m : List Addr} {H : Hp} {f : Nat} {g : Str} {v : Val} (hn : nm[f]? = some g) : ∀ {r : List (Nat × Val)} {s : List (Str × V)}, nm.Nodup → FR nm K m H r s → fget r f = some v → ∃ x, s.lookup g = some x ∧ RV K m H v x
  | _, _, _, .nil, e => by cases e
  | _, _, nd, .cons (f := f1) (g := g1) (v := v1) (x := x1) (r := r) (s := s) h1 a b, e => by
    rw [fget_cons] at e
    by_cases hk : f = f1
    · subst hk
      rw [if_pos rfl] at e
      cases e
      rw [hn] at h1
      cases h1
      exact ⟨x1, by simp, a⟩
    · rw [if_neg hk] at e
      obtain ⟨x, q1, q2⟩ := FR.get hn nd b e
      refine ⟨x, ?_, q2⟩
      rw [List.lookup_cons]
      have : (g == g1) = false := by
        simp only [beq_eq_false_iff_ne, ne_eq]
        intro z
        subst z
        exact hk (L2.nodup_ix nd hn h1)
      rw [this]
      exact q1
theorem FR.none {K : PySem.W.Frag} {m : List Addr} {H : Hp} {f : Nat} {g : Str} (hn : nm[f]? = some g) : ∀ {r : List (Nat × Val)} {s : List (Str × V)}, nm.Nodup → FR nm K m H r s → fget r f = none → s.lookup g = none
  | _, _, _, .nil, _ => rfl
  | _, _, nd, .cons (f := f1) (g := g1) (v := v1) (x := x1) (r := r) (s := s) h1 a b, e => by
    rw [fget_cons] at e
    by_cases hk : f = f1
    · rw [if_pos hk] at e; cases e
    · rw [if_neg hk] at e
      rw [List.lookup_cons]
      have : (g == g1) = false := by
        simp only [beq_eq_false_iff_ne, ne_eq]
        intro z
        subst z
        exact hk (L2.nodup_ix nd hn h1)
      rw [this]
      exact FR.none hn nd b e
theorem FR.len {K : PySem.W.Frag} {m : List Addr} {H : Hp} : ∀ {r : List (Nat × Val)} {s : List (Str × V)}, FR nm K m H r s → s.length = r.length
  | _, _, .nil => rfl
  | _, _, .cons _ _ b => by simp [FR.len b]
theorem FR.put {K : PySem.W.Frag} {m : List Addr} {H : Hp} {f : Nat} {g : Str} {v : Val} {x : V} (hn : nm[f]? = some g) (nd : nm.Nodup) (rv : RV K m H v x) : ∀ {r : List (Nat × Val)} {s : List (Str × V)}, FR nm K m H r s → FR nm K m H (fput f v r) (putF g x s)
  | _, _, .nil => .cons hn rv .nil
  | _, _, .cons (f := f1) (g := g1) (v := v1) (x := x1) (r := r) (s := s) h1 a b => by
    show FR nm K m H (if f1 = f then (f1, v) :: r else (f1, v1) :: fput f v r) (if g1 = g then (g1, x) :: s else (g1, x1) :: putF g x s)
    by_cases hk : f1 = f
    · subst hk
      rw [hn] at h1
      cases h1
      rw [if_pos rfl, if_pos rfl]
      exact .cons hn rv b
    · rw [if_neg hk, if_neg (fun z => hk (by subst z; exact L2.nodup_ix nd h1 hn))]
      exact .cons h1 a (FR.put hn nd rv b)
theorem Rep.ins {Z : Ev} {m : List Addr} {h : Hs} {H : Hp} (r : Rep Z m h H) {n : Nat} {a : Addr} {c : Nat} {fs : List (Nat × Val)} (hn : m[n]? = some a) (hb : h[n]? = some (.ins c fs)) : ∃ dx fx, H a = some (.ins (Z.ca c) dx fx) ∧ FR Z.nm Z.K m H fs fx ∧ Cls Z.K (Z.ca c) ∧ ∀ q ∈ fx, NoAttr Z.K (Z.ca c) q.1 := r.at_ hn hb
theorem putF_mem {g : Str} {x : V} {q : Str × V} : ∀ {s : List (Str × V)}, q ∈ putF g x s → q.1 = g ∨ ∃ y ∈ s, y.1 = q.1
  | [], h => .inl (by have : q = (g, x) := by simpa [putF] using h
                      rw [this])
  | (k, y) :: r, h => by
    rw [show putF g x ((k, y) :: r) = (if k = g then (k, x) :: r else (k, y) :: putF g x r) from rfl] at h
    split at h
    · rcases List.mem_cons.mp h with e | h
      · exact .inr ⟨(k, y), List.mem_cons_self, by rw [e]⟩
      · exact .inr ⟨q, List.mem_cons_of_mem _ h, rfl⟩
    · rcases List.mem_cons.mp h with e | h
      · exact .inr ⟨(k, y), List.mem_cons_self, by rw [e]⟩
      · rcases putF_mem h with e | ⟨z, hz, e⟩
        · exact .inl e
        · exact .inr ⟨z, List.mem_cons_of_mem _ hz, e⟩

/-! ### built-in functions -/
theorem insI_perm (x : Int) : ∀ l : List Int, (insI x l).Perm (x :: l)
  | [] => .refl _
  | y :: r => by
    unfold insI
    split
    · exact .refl _
    · exact ((insI_perm x r).cons y).trans (.swap x y r)
theorem srtI_perm : ∀ l : List Int, (srtI l).Perm l
  | [] => .refl _
  | x :: r => (insI_perm x (srtI r)).trans ((srtI_perm r).cons x)
theorem insI_pw (x : Int) : ∀ l : List Int, l.Pairwise (· ≤ ·) → (insI x l).Pairwise (· ≤ ·)
  | [], _ => by simp [insI]
  | y :: r, h => by
    unfold insI
    rw [List.pairwise_cons] at h
    split
    · rename_i hx
      rw [List.pairwise_cons, List.pairwise_cons]
      refine ⟨fun z hz => ?_, h⟩
      rcases List.mem_cons.mp hz with e | hz
      · subst e; exact hx
      · exact Int.le_trans hx (h.1 z hz)
    · rename_i hx
      rw [List.pairwise_cons]
      refine ⟨fun z hz => ?_, insI_pw x r h.2⟩
      rcases List.mem_cons.mp ((insI_perm x r).mem_iff.mp hz) with e | hz
      · subst e; omega
      · exact h.1 z hz
theorem srtI_pw : ∀ l : List Int, (srtI l).Pairwise (· ≤ ·)
  | [] => .nil
  | x :: r => insI_pw x _ (srtI_pw r)
theorem perm_srt {l l' : List Int} (hp : l.Perm l') (h : l.Pairwise (· ≤ ·)) (h' : l'.Pairwise (· ≤ ·)) : l = l' :=
  hp.eq_of_pairwise (fun a b _ _ h1 h2 => Int.le_antisymm h1 h2) h h'
theorem srt_eq {l l' : List Int} (hp : l.Perm l') (h : l.Pairwise (· ≤ ·)) : l = srtI l' := perm_srt (hp.trans (srtI_perm l').symm) h (srtI_pw l')
def rPrim (Z : Ev) (p : Prim) : List V → Hp → VK → Prop := fun xs H Q => ∃ m h vs, Rep Z m h H ∧ RVs Z.K m H vs xs ∧ Post Z m H (primF p vs h) Q
def primV : Prim → Value
  | .len => .builtin "len"
  | .int => .type "int"
  | .abs => .builtin "abs"
  | .min => .builtin "min"
  | .max => .builtin "max"
  | .str => .type "str"
  | .tuple => .type "tuple"
  | .list => .type "list"
  | .sum => .builtin "sum"
  | .sorted => .builtin "sorted"
  | .ord => .builtin "ord"
theorem dr_ints {K : PySem.W.Frag} {m : List Addr} {H : Hp} : ∀ {kvs : List (Ky × Val)} {kxs : List (Key × V)} {ns : List Int}, DR K m H kvs kxs → isInts (kvs.map fun q => ofKy q.1) = some ns → kxs.map (·.1) = ns.map Sum.inl
  | _, _, _, .nil, e => by cases e; rfl
  | _, _, ns, .cons (k := k) a b, e => by
    cases k with
    | inl i =>
      simp only [List.map_cons, ofKy, isInts, Option.map_eq_some_iff] at e
      obtain ⟨ms, e1, e2⟩ := e
      subst e2
      rw [List.map_cons, List.map_cons, dr_ints b e1]
      rfl
    | inr s => simp [ofKy, isInts] at e
theorem len_ok {Z : Ev} {m : List Addr} {h : Hs} {H : Hp} {v : Val} {x : V} {ws : List Val} (r : Rep Z m h H) (rv : RV Z.K m H v x) (e : seqOf h v = some ws) : LenV Z.K x H ws.length := by
  obtain ⟨a, xs, rfl, z1, z2⟩ := r.seq rv e
  rcases z1 with z1 | z1
  · exact .inl ⟨xs, z1, z2.len⟩
  · exact .inr ⟨xs, z1, z2.len⟩
theorem prim_S (hc : X.calm = true) (p : Prim) : CallR X (primV p) (rPrim (zz X nm ca) p) := by
  intro pins s σ H xs us Q I rs hq
  obtain ⟨m, h, vs, r, rv, q⟩ := hq
  cases p with
  | len =>
    cases rv with
    | nil => exact False.elim q
    | cons r1 r2 =>
      cases r2 with
      | cons _ _ => cases r1 <;> exact False.elim q
      | nil =>
        have dc : ∀ (v : Val) (x : V), RV X.K m H v x → Vals [x] us → Post (zz X nm ca) m H (match seqOf h v with
            | some ws => .ok (.int ws.length) h
            | none => (match dctOf h v with
              | some kvs => .ok (.int kvs.length) h
              | none => .stk)) Q → wpAny (model X.prog X.w) X.A (call (primV .len) us) (EP X pins σ Q) X.xe s := by
          intro v x rv rs q
          split at q
          · rename_i ws e
            exact call_len pins s σ H [x] us Q I rs ⟨x, ws.length, rfl, len_ok r rv e, q.of r (.int _)⟩
          · split at q
            · rename_i kvs e
              obtain ⟨a, kxs, z1, z2, z3⟩ := dctOf_rv r rv e
              exact call_lenD pins s σ H [x] us Q I rs ⟨a, kxs, by rw [z1], z2, by rw [z3.len]; exact q.of r (.int _)⟩
            · exact False.elim q
        cases r1 with
        | str z =>
          simp only [primF] at q
          split at q
          · rename_i hl
            exact call_len pins s σ H _ us Q I rs ⟨_, z.length, rfl, ⟨by rw [mk_len, lim_eq]; exact hl, by rw [mk_len]⟩, q.of r (.int _)⟩
          · exact False.elim q
        | non => exact dc _ _ .non rs q
        | bl b => exact dc _ _ (.bl b) rs q
        | int i => exact dc _ _ (.int i) rs q
        | tup h1 h2 => exact dc _ _ (.tup h1 h2) rs q
        | ref h1 => exact dc _ _ (.ref h1) rs q
  | int =>
    cases rv with
    | nil => exact False.elim q
    | cons r1 r2 =>
      cases r2 with
      | cons _ _ => cases r1 <;> exact False.elim q
      | nil =>
        cases r1 with
        | int i => exact call_int1 pins s σ H _ us Q I rs (.inl ⟨i, rfl, q.of r (.int _)⟩)
        | bl b => exact call_int1 pins s σ H _ us Q I rs (.inr ⟨b, rfl, q.of r (.int _)⟩)
        | str z =>
          simp only [primF] at q
          split at q
          · rename_i n e
            split at q
            · rename_i hl
              exact call_int_str pins s σ H _ us Q I rs ⟨mk z, n, rfl, e, by rw [mk_len]; exact hl, q.of r (.int _)⟩
            · exact False.elim q
          · exact False.elim q
        | _ => exact False.elim q
  | abs =>
    cases rv with
    | nil => exact False.elim q
    | cons r1 r2 =>
      cases r2 with
      | cons _ _ => cases r1 <;> exact False.elim q
      | nil =>
        cases r1 with
        | int i => exact call_abs pins s σ H _ us Q I rs ⟨i, rfl, q.of r (.int _)⟩
        | _ => exact False.elim q
  | min =>
    cases rv with
    | nil => exact False.elim q
    | cons r1 r2 =>
      cases r1 with
      | int i =>
        cases r2 with
        | nil => exact False.elim q
        | cons r3 r4 =>
          cases r3 with
          | int j =>
            cases r4 with
            | nil => exact call_min2 hc pins s σ H _ us Q I rs ⟨i, j, rfl, q.of r (.int _)⟩
            | cons _ _ => exact False.elim q
          | _ => exact False.elim q
      | _ => cases r2 <;> exact False.elim q
  | max =>
    cases rv with
    | nil => exact False.elim q
    | cons r1 r2 =>
      cases r1 with
      | int i =>
        cases r2 with
        | nil => exact False.elim q
        | cons r3 r4 =>
          cases r3 with
          | int j =>
            cases r4 with
            | nil => exact call_max2 hc pins s σ H _ us Q I rs ⟨i, j, rfl, q.of r (.int _)⟩
            | cons _ _ => exact False.elim q
          | _ => exact False.elim q
      | _ => cases r2 <;> exact False.elim q
  | str =>
    cases rv with
    | nil => exact False.elim q
    | cons r1 r2 =>
      cases r2 with
      | cons _ _ => cases r1 <;> exact False.elim q
      | nil =>
        cases r1 with
        | int i =>
          simp only [primF] at q
          split at q
          · rename_i hl
            refine call_str_int pins s σ H _ us Q I rs ⟨i, rfl, hl, ?_⟩
            have z := q.of r (.str _)
            rw [show mk (numS i) = (toString i : Str) from mk_of _] at z
            exact z
          · exact False.elim q
        | _ => exact False.elim q
  | tuple =>
    cases rv with
    | nil => exact False.elim q
    | cons r1 r2 =>
      rename_i v vs x xs
      cases r2 with
      | cons _ _ => exact False.elim q
      | nil =>
        simp only [primF] at q
        cases e : seqOf h v with
        | none => rw [e] at q; exact False.elim q
        | some ws =>
          rw [e] at q
          obtain ⟨a, ys, z1, z2, z3⟩ := r.seq r1 e
          subst z1
          rcases z2 with z2 | z2
          · exact call_tuple_of pins s σ H _ us Q I rs ⟨a, ys, rfl, .inl ⟨z2, fun l hl => q.tup r hl z3⟩⟩
          · exact call_tuple_of pins s σ H _ us Q I rs ⟨a, ys, rfl, .inr ⟨z2, q.of r (.tup z2 z3)⟩⟩
  | list =>
    cases rv with
    | nil => exact False.elim q
    | cons r1 r2 =>
      rename_i v vs x xs
      cases r2 with
      | cons _ _ => exact False.elim q
      | nil =>
        simp only [primF] at q
        split at q
        · rename_i ws e
          obtain ⟨a, ys, z1, z2, z3⟩ := r.seq r1 e
          subst z1
          exact call_list_of pins s σ H _ us Q I rs ⟨a, ys, rfl, z2, fun l hl => q.lst r hl z3⟩
        · exact False.elim q
  | sum =>
    cases rv with
    | nil => exact False.elim q
    | cons r1 r2 =>
      cases r2 with
      | cons _ _ => cases r1 <;> exact False.elim q
      | nil =>
        cases r1 with
        | @ref n a h1 =>
          simp only [primF] at q
          split at q
          · rename_i ws e
            split at q
            · rename_i ns e2
              obtain ⟨b, ys, z1, z2, z3⟩ := r.seq (.ref h1) e
              cases z1
              have z4 := z3.ints e2
              rcases z2 with z2 | z2
              · exact cr_sum hc pins s σ H _ us Q I rs ⟨a, ns, rfl, by rw [← z4]; exact z2, q.of r (.int _)⟩
              · obtain ⟨zs, y1, y2⟩ : ∃ zs, SqL X.K H a zs ∧ RVs X.K m H ws zs := by
                  simp only [seqOf] at e
                  split at e
                  · rename_i w' e'
                    cases e
                    exact r.seqL h1 (.inl e')
                  · rename_i w' e'
                    cases e
                    exact r.seqL h1 (.inr e')
                  · cases e
                exact cr_sum hc pins s σ H _ us Q I rs ⟨a, ns, rfl, by rw [← y2.ints e2]; exact y1, q.of r (.int _)⟩
            · exact False.elim q
          · exact False.elim q
        | _ => exact False.elim q
  | sorted =>
    cases rv with
    | nil => exact False.elim q
    | cons r1 r2 =>
      cases r2 with
      | cons _ _ => cases r1 <;> exact False.elim q
      | nil =>
        cases r1 with
        | @ref n a h1 =>
          simp only [primF] at q
          split at q
          · rename_i ws e
            split at q
            · rename_i ns e2
              split at q
              · rename_i h64
                obtain ⟨zs, y1, y2⟩ : ∃ zs, SqL X.K H a zs ∧ RVs X.K m H ws zs := by
                  simp only [seqOf] at e
                  split at e
                  · rename_i w' e'
                    cases e
                    exact r.seqL h1 (.inl e')
                  · rename_i w' e'
                    cases e
                    exact r.seqL h1 (.inr e')
                  · cases e
                refine cr_sorted pins s σ H _ us Q I rs ⟨a, ns, rfl, by rw [← y2.ints e2]; exact y1, h64, fun ns' p hp hw hn => ?_⟩
                rw [srt_eq hp hw]
                exact q.lst r hn (rvs_ints _)
              · exact False.elim q
            · exact False.elim q
          · split at q
            · rename_i kvs e
              split at q
              · rename_i ns e2
                split at q
                · rename_i h64
                  obtain ⟨b, kxs, z1, z2, z3⟩ := dctOf_rv r (.ref h1) e
                  cases z1
                  refine call_sortedDI hc pins s σ H _ us Q I rs ⟨a, kxs, ns, rfl, .inl z2, dr_ints z3 e2, h64, fun ys p hp hw hn => ?_⟩
                  rw [srt_eq hp hw]
                  exact q.lst r hn (rvs_ints _)
                · exact False.elim q
              · exact False.elim q
            · exact False.elim q
        | _ => exact False.elim q
  | ord =>
    cases rv with
    | nil => exact False.elim q
    | cons r1 r2 =>
      cases r1 with
      | str z =>
        cases r2 with
        | cons _ _ => simp only [primF] at q; exact False.elim q
        | nil =>
          simp only [primF] at q
          split at q
          all_goals first
            | exact False.elim q
            | skip
          all_goals simp_all
          all_goals first
            | done
            | (refine call_ord pins s σ H _ us Q I rs ⟨_, rfl, rfl, ?_⟩
               exact q.of r (.int _))
      | _ => cases r2 <;> exact False.elim q
end
end MP

set_option Elab.async false
set_option linter.all false
set_option maxRecDepth 100000
set_option maxHeartbeats 1000000
set_option autoImplicit false
/-! MPe: the built-in methods. -/
namespace MP
open PySem PySem.Spec PyProof.Rows L2
def pmT : PM → String
  | .append => "list" | .extend => "list" | .pop => "list" | .index => "list"
  | .get => "dict" | .get2 => "dict" | .dpop => "dict"
  | _ => "str"
def pmN : PM → Str
  | .append => "append" | .extend => "extend" | .pop => "pop" | .index => "index"
  | .get => "get" | .get2 => "get" | .dpop => "pop"
  | .find => "find" | .split => "split" | .strip => "strip" | .stripC => "strip" | .lower => "lower" | .upper => "upper" | .join => "join" | .startswith => "startswith"
def pmI : PM → String
  | .append => "list.append" | .extend => "list.extend" | .pop => "list.pop" | .index => "list.index"
  | .get => "dict.get" | .get2 => "dict.get" | .dpop => "dict.pop"
  | .find => "str.find" | .split => "str.split" | .strip => "str.strip" | .stripC => "str.strip" | .lower => "str.lower" | .upper => "str.upper" | .join => "str.join" | .startswith => "str.startswith"
theorem pm_pa (p : PM) : PlainAttrs (pmT p) := by
  cases p <;> first | exact PySem.F.plainAttrs_list | exact PySem.F.plainAttrs_dict | exact PySem.F.plainAttrs_str
theorem pm_slot (p : PM) : Slot (pmT p) (pmN p) (pmI p) := by
  cases p
  · exact PySem.F.slot_list_append
  · exact PySem.F.slot_list_extend
  · exact PySem.F.slot_list_pop
  · exact PySem.F.slot_str_find
  · exact PySem.F.slot_str_split
  · exact PySem.F.slot_str_strip
  · exact PySem.F.slot_str_strip
  · exact PySem.F.slot_str_lower
  · exact PySem.F.slot_str_upper
  · exact PySem.F.slot_str_join
  · exact PySem.F.slot_list_index
  · exact PySem.F.slot_dict_get
  · exact PySem.F.slot_dict_get
  · exact PySem.F.slot_str_startswith
  · exact PySem.F.slot_dict_pop
theorem pm_ty (p : PM) : typeOf (.builtin (pmI p)) = pure (.type "method_descriptor") := by
  cases p
  · exact PySem.F.type_list_append
  · exact PySem.F.type_list_extend
  · exact PySem.F.type_list_pop
  · exact PySem.F.type_str_find
  · exact PySem.F.type_str_split
  · exact PySem.F.type_str_strip
  · exact PySem.F.type_str_strip
  · exact PySem.F.type_str_lower
  · exact PySem.F.type_str_upper
  · exact PySem.F.type_str_join
  · exact PySem.F.type_list_index
  · exact PySem.F.type_dict_get
  · exact PySem.F.type_dict_get
  · exact PySem.F.type_str_startswith
  · exact PySem.F.type_dict_pop
section
variable {X : Cx} {nm : List Str} {ca : Nat → Addr}
/-- the receiver is of the method's type -/
theorem tyOk {Z : Ev} {m : List Addr} {h : Hs} {H : Hp} {p : PM} {v : Val} {x : V} (r : Rep Z m h H) (rv : RV Z.K m H v x) (e : tyOkB h p v = true) : tyV Z.K (pmT p) x H := by
  have lst : ∀ (n : Nat), v = .ref n → (∃ vs, h[n]? = some (.lst vs) ∨ h[n]? = some (.frz vs)) → tyV Z.K "list" x H := fun n ev hb => by
    subst ev
    cases rv with
    | ref h1 =>
      obtain ⟨vs, e⟩ := hb
      obtain ⟨xs, z, _⟩ := r.seqL h1 e
      exact .inl ⟨rfl, xs, z⟩
  have dct : ∀ (n : Nat), v = .ref n → (∃ kvs, h[n]? = some (.dct kvs)) → tyV Z.K "dict" x H := fun n ev hb => by
    subst ev
    cases rv with
    | ref h1 =>
      obtain ⟨vs, e⟩ := hb
      obtain ⟨xs, z, _⟩ := r.dct h1 e
      exact .inr (.inr (.inl ⟨rfl, .inl ⟨xs, z⟩⟩))
  have str : ∀ (s : List Nat), v = .str s → tyV Z.K "str" x H := fun n ev => by
    subst ev
    cases rv
    rfl
  cases p <;> cases v <;> first
    | (exact Bool.noConfusion e)
    | (exact str _ rfl)
    | (simp only [tyOkB] at e
       split at e
       all_goals first
         | (exact Bool.noConfusion e)
         | (rename_i q; exact lst _ rfl ⟨_, .inl q⟩)
         | (rename_i q; exact lst _ rfl ⟨_, .inr q⟩)
         | (rename_i q; exact dct _ rfl ⟨_, q⟩))
theorem strs_seq {Z : Ev} {m : List Addr} {h : Hs} {H : Hp} {n : Nat} {a : Addr} {ws : List Val} (r : Rep Z m h H) (h1 : m[n]? = some a) (e : seqOf h (.ref n) = some ws) : ∃ zs, SqL Z.K H a zs ∧ RVs Z.K m H ws zs := by
  simp only [seqOf] at e
  split at e
  · rename_i w' e'
    cases e
    exact r.seqL h1 (.inl e')
  · rename_i w' e'
    cases e
    exact r.seqL h1 (.inr e')
  · cases e
theorem mk_tl_map (ts : List (List Nat)) : (ts.map mk).map TL.tl = ts := by
  induction ts with
  | nil => rfl
  | cons t r ih => rw [List.map_cons, List.map_cons, ih]
theorem join_mk (s : List Nat) (ts : List (List Nat)) : Txt.join (mk s) (ts.map mk) = mk (TL.joinL s ts) := by
  refine TL.ext_tl ?_
  rw [TL.join_eq, TL.tl_join, mk_tl_map]
theorem split_mk {s u : List Nat} (h0 : u.length ≠ 0) (hk : u.all (· < 256) = true) : Txt.split (mk s) (mk u) = (TL.spl u 0 [] s).map mk := by
  refine TL.map_tl_inj ?_
  rw [mk_tl_map]
  refine TL.split_spl (mk s) (mk u) ?_ (TL.kind_ok ?_)
  · show u ≠ []
    intro z
    rw [z] at h0
    exact h0 rfl
  · show u.toArray.all (· < 256) = true
    simpa using hk
theorem idxF_ok {K : PySem.W.Frag} {m : List Addr} {H : Hp} {w : Val} {y : V} (rw_ : RV K m H w y) (fw : flat w = true) : ∀ {vs : List Val} {xs : List V} {i j : Nat}, RVs K m H vs xs → vs.all flat = true → idxF w vs i = some j →
    ∃ k z, j = i + k ∧ xs[k]? = some z ∧ eqV z y = true ∧ ∀ (q : Nat) (z' : V), q < k → xs[q]? = some z' → eqV z' y = false
  | [], _, _, _, h, _, e => by cases e
  | v :: vs, _, i, j, h, fl, e => by
    cases h with
    | cons h1 h2 =>
      rename_i x xs
      rw [List.all_cons, Bool.and_eq_true] at fl
      unfold idxF at e
      have ev := eqW_rv h1 rw_ fl.1 fw
      split at e
      · rename_i hv
        cases e
        exact ⟨0, x, rfl, rfl, by rw [ev]; exact hv, fun q z' hq => by omega⟩
      · rename_i hv
        obtain ⟨k, z, e1, e2, e3, e4⟩ := idxF_ok rw_ fw h2 fl.2 e
        refine ⟨k + 1, z, by omega, by simpa using e2, e3, fun q z' hq hz => ?_⟩
        cases q with
        | zero =>
          simp at hz
          subst hz
          rw [ev]
          simpa using hv
        | succ q => exact e4 q z' (by omega) (by simpa using hz)
def rPM (Z : Ev) (p : PM) : V → List V → Hp → VK → Prop := fun x xs H Q => ∃ m h a vs, Rep Z m h H ∧ RV Z.K m H a x ∧ RVs Z.K m H vs xs ∧ Post Z m H (pmF p a vs h) Q
theorem pm_S (hu : X.A.units + 65 < cLine) (p : PM) : MtR X (pmI p) (rPM (zz X nm ca) p) := by
  intro pins s σ H x xs v us Q I rx rxs hq
  obtain ⟨m, h, a, vs, r, ra, rs, q⟩ := hq
  have nl : ∀ {ys : List V} {o : HO} {t : Addr}, H t = some (.lst ys) → Ext m H m (upd H t o) := fun e => ext_lst e
  cases p with
  | append =>
    cases ra with
    | @ref n t h1 =>
      cases rs with
      | nil => exact False.elim q
      | cons r1 r2 =>
        cases r2 with
        | cons _ _ => exact False.elim q
        | nil =>
          simp only [pmF] at q
          split at q
          · rename_i ws e
            split at q
            · rename_i hl
              obtain ⟨ys, z1, z2⟩ := r.lst h1 e
              refine mt_append pins s σ H _ _ v us Q I rx rxs ⟨t, ys, _, rfl, rfl, z1, by rw [← z2.len, lim_eq]; exact hl, ?_⟩
              exact q.set r .non h1 e rfl rfl z1 (fun _ z => by cases z) (fun _ _ z => by cases z) ⟨_, upd_same, RVs.mono (nl z1) _ _ (z2.append (.cons r1 .nil))⟩
            · exact False.elim q
          · exact False.elim q
    | _ => exact False.elim q
  | extend =>
    cases ra with
    | @ref n t h1 =>
      cases rs with
      | nil => exact False.elim q
      | cons r1 r2 =>
        cases r1 with
        | @ref k t2 h2 =>
          cases r2 with
          | cons _ _ => exact False.elim q
          | nil =>
            simp only [pmF] at q
            split at q
            · rename_i ws us' e e2
              split at q
              · rename_i hl
                obtain ⟨ys, z1, z2⟩ := r.lst h1 e
                obtain ⟨ys2, z3, z4⟩ := r.lst h2 e2
                refine mt_extend pins s σ H _ _ v us Q I rx rxs ⟨t, t2, ys, ys2, rfl, rfl, z1, z3, by rw [← z2.len, ← z4.len, lim_eq]; exact hl, ?_⟩
                exact q.set r .non h1 e rfl rfl z1 (fun _ z => by cases z) (fun _ _ z => by cases z) ⟨_, upd_same, RVs.mono (nl z1) _ _ (z2.append z4)⟩
              · exact False.elim q
            · exact False.elim q
        | _ => cases r2 <;> exact False.elim q
    | _ => exact False.elim q
  | pop =>
    cases ra with
    | @ref n t h1 =>
      cases rs with
      | cons _ _ => exact False.elim q
      | nil =>
        simp only [pmF] at q
        split at q
        · rename_i ws e
          split at q
          · rename_i w e2
            obtain ⟨ys, z1, z2⟩ := r.lst h1 e
            rw [List.getLast?_eq_getElem?] at e2
            obtain ⟨y, z3, z4⟩ := z2.get e2
            refine mt_pop pins s σ H _ _ v us Q I rx rxs ⟨t, ys, y, rfl, rfl, z1, by rw [← z2.len]; exact z3, ?_⟩
            exact q.set r z4 h1 e rfl rfl z1 (fun _ z => by cases z) (fun _ _ z => by cases z) ⟨_, upd_same, RVs.mono (nl z1) _ _ z2.dropLast⟩
          · exact False.elim q
        · exact False.elim q
    | _ => exact False.elim q
  | find =>
    cases ra with
    | str z =>
      cases rs with
      | nil => exact False.elim q
      | cons r1 r2 =>
        cases r1 with
        | str w =>
          cases r2 with
          | cons _ _ => exact False.elim q
          | nil => exact mt_find pins s σ H _ _ v us Q I rx rxs ⟨mk z, mk w, rfl, rfl, q.of r (.int _)⟩
        | _ => cases r2 <;> exact False.elim q
    | _ => exact False.elim q
  | startswith =>
    cases ra with
    | str z =>
      cases rs with
      | nil => exact False.elim q
      | cons r1 r2 =>
        cases r1 with
        | str w =>
          cases r2 with
          | cons _ _ => exact False.elim q
          | nil => exact mt_startswith pins s σ H _ _ v us Q I rx rxs ⟨mk z, mk w, rfl, rfl, q.of r (.bl _)⟩
        | _ => cases r2 <;> exact False.elim q
    | _ => exact False.elim q
  | split =>
    cases ra with
    | str z =>
      cases rs with
      | nil => exact False.elim q
      | cons r1 r2 =>
        cases r1 with
        | str w =>
          cases r2 with
          | cons _ _ => exact False.elim q
          | nil =>
            simp only [pmF] at q
            split at q
            · rename_i hc
              refine mt_split pins s σ H _ _ v us Q I rx rxs ⟨mk z, mk w, rfl, rfl, ?_, by rw [mk_len, lim_eq]; exact hc.2.1, fun t ht => ?_⟩
              · rw [mk_len]; simpa using hc.1
              · rw [split_mk hc.1 hc.2.2]
                exact q.lst r ht (rvs_strs _)
            · exact False.elim q
        | _ => cases r2 <;> exact False.elim q
    | _ => exact False.elim q
  | strip =>
    cases ra with
    | str z =>
      cases rs with
      | cons _ _ => exact False.elim q
      | nil =>
        simp only [pmF] at q
        split at q
        · rename_i hc
          have y := q.of r (.str _)
          rw [mk_of] at y
          exact mt_strip pins s σ H _ _ v us Q I rx rxs ⟨mk z, rfl, rfl, by rw [mk_len, lim_eq]; exact hc, y⟩
        · exact False.elim q
    | _ => exact False.elim q
  | stripC =>
    cases ra with
    | str z =>
      cases rs with
      | nil => exact False.elim q
      | cons r1 r2 =>
        cases r1 with
        | str w =>
          cases r2 with
          | cons _ _ => exact False.elim q
          | nil =>
            simp only [pmF] at q
            split at q
            · rename_i hc
              have y := q.of r (.str _)
              rw [mk_of] at y
              exact mt_stripChars pins s σ H _ _ v us Q I rx rxs ⟨mk z, mk w, rfl, rfl, by rw [mk_len, lim_eq]; exact hc, y⟩
            · exact False.elim q
        | _ => cases r2 <;> exact False.elim q
    | _ => exact False.elim q
  | lower =>
    cases ra with
    | str z =>
      cases rs with
      | cons _ _ => exact False.elim q
      | nil =>
        simp only [pmF] at q
        split at q
        · rename_i hc
          have y := q.of r (.str _)
          rw [mk_of] at y
          exact mt_lower pins s σ H _ _ v us Q I rx rxs ⟨mk z, rfl, rfl, by rw [mk_len]; exact hc, y⟩
        · exact False.elim q
    | _ => exact False.elim q
  | upper =>
    cases ra with
    | str z =>
      cases rs with
      | cons _ _ => exact False.elim q
      | nil =>
        simp only [pmF] at q
        split at q
        · rename_i hc
          have y := q.of r (.str _)
          rw [mk_of] at y
          exact mt_upper pins s σ H _ _ v us Q I rx rxs ⟨mk z, rfl, rfl, by rw [mk_len]; exact hc, y⟩
        · exact False.elim q
    | _ => exact False.elim q
  | join =>
    cases ra with
    | str z =>
      cases rs with
      | nil => exact False.elim q
      | cons r1 r2 =>
        cases r1 with
        | @ref k t h1 =>
          cases r2 with
          | cons _ _ => exact False.elim q
          | nil =>
            simp only [pmF] at q
            split at q
            · rename_i ws e
              split at q
              · rename_i ts e2
                split at q
                · rename_i hc
                  obtain ⟨zs, y1, y2⟩ := strs_seq r h1 e
                  have y3 := y2.strs e2
                  subst y3
                  refine mt_join pins s σ H _ _ v us Q I rx rxs ⟨mk z, t, ts.map mk, rfl, rfl, .inl y1, ?_, ?_⟩
                  · rw [List.map_map, List.length_map, mk_len]
                    have e3 : (Str.length ∘ mk) = List.length := by
                      funext l
                      exact mk_len l
                    rw [e3]
                    exact hc
                  · rw [join_mk]
                    exact q.of r (.str _)
                · exact False.elim q
              · exact False.elim q
            · exact False.elim q
        | _ => cases r2 <;> exact False.elim q
    | _ => exact False.elim q
  | index =>
    cases ra with
    | @ref n t h1 =>
      cases rs with
      | nil => exact False.elim q
      | cons r1 r2 =>
        rename_i w y
        cases r2 with
        | cons _ _ => exact False.elim q
        | nil =>
          simp only [pmF] at q
          split at q
          · rename_i ws e
            split at q
            · rename_i hc
              cases e2 : idxF _ ws 0 with
              | none => rw [e2] at q; exact False.elim q
              | some j =>
                rw [e2] at q
                obtain ⟨zs, y1, y2⟩ := strs_seq r h1 e
                obtain ⟨k, z, e3, e4, e5, e6⟩ := idxF_ok r1 hc.1 y2 hc.2 e2
                have e7 : j = k := by omega
                subst e7
                exact mt_index pins s σ H _ _ v us Q I rx rxs ⟨t, zs, _, j, z, rfl, rfl, y1, flat_rv r1 hc.1, flats_rv y2 hc.2, e4, e5, e6, q.of r (.int _)⟩
            · exact False.elim q
          · exact False.elim q
    | _ => exact False.elim q
  | get =>
    cases ra with
    | @ref n t h1 =>
      cases rs with
      | nil => exact False.elim q
      | cons r1 r2 =>
        cases r2 with
        | cons _ _ => exact False.elim q
        | nil =>
          simp only [pmF] at q
          split at q
          · rename_i kvs k e e2
            obtain ⟨kxs, z1, z2⟩ := r.dct h1 e
            obtain ⟨u1, rfl, ru⟩ := Vals.one rxs
            obtain rfl : v = Value.ref t := rx
            have g : DGet H t _ (valV kxs (kyK k)) := DGet.k z1
            rw [← toKy_rv r1 e2] at g
            refine d_get1 (by omega) I g ru fun w' s' I' rw' => ⟨_, H, I', rw', ?_⟩
            obtain ⟨g1, g2⟩ := z2.get k
            cases e3 : dget kvs k with
            | none =>
              rw [g2 e3]
              rw [e3] at q
              exact q.of r .non
            | some w =>
              obtain ⟨x', y1, y2⟩ := g1 w e3
              rw [y1]
              rw [e3] at q
              exact q.of r y2
          · exact False.elim q
    | _ => exact False.elim q
  | get2 =>
    cases ra with
    | @ref n t h1 =>
      cases rs with
      | nil => exact False.elim q
      | cons r1 r2 =>
        cases r2 with
        | nil => exact False.elim q
        | cons r3 r4 =>
          cases r4 with
          | cons _ _ => exact False.elim q
          | nil =>
            simp only [pmF] at q
            split at q
            · rename_i kvs k e e2
              obtain ⟨kxs, z1, z2⟩ := r.dct h1 e
              obtain ⟨u1, u2, rfl, ru, ru2⟩ := Vals.two rxs
              obtain rfl : v = Value.ref t := rx
              have g : DGet H t _ (valV kxs (kyK k)) := DGet.k z1
              rw [← toKy_rv r1 e2] at g
              refine d_get2 (by omega) I g ru ru2 fun w' s' I' rw' => ⟨_, H, I', rw', ?_⟩
              obtain ⟨g1, g2⟩ := z2.get k
              cases e3 : dget kvs k with
              | none =>
                rw [g2 e3]
                rw [e3] at q
                exact q.of r r3
              | some w =>
                obtain ⟨x', y1, y2⟩ := g1 w e3
                rw [y1]
                rw [e3] at q
                exact q.of r y2
            · exact False.elim q
    | _ => exact False.elim q
  | dpop =>
    cases ra with
    | @ref n t h1 =>
      cases rs with
      | nil => exact False.elim q
      | cons r1 r2 =>
        cases r2 with
        | cons _ _ => exact False.elim q
        | nil =>
          simp only [pmF] at q
          split at q
          · rename_i kvs k e e2
            split at q
            · rename_i w e3
              obtain ⟨kxs, z1, z2⟩ := r.dct h1 e
              obtain ⟨u1, rfl, ru⟩ := Vals.one rxs
              obtain rfl : v = Value.ref t := rx
              obtain ⟨g1, _⟩ := z2.get k
              obtain ⟨x', y1, y2⟩ := g1 w e3
              rw [toKy_rv r1 e2] at ru
              refine d_pop I z1 ru y1 (.inl rfl) fun w' s' I' rw' => ⟨x', _, I', rw', ?_⟩
              exact q.set r y2 h1 e rfl rfl z1 (fun _ z => by cases z) (fun _ _ z => by cases z) ⟨_, upd_same, z2.del.mono (ext_dct z1)⟩
            · exact False.elim q
          · exact False.elim q
    | _ => exact False.elim q
end
end MP

set_option Elab.async false
set_option linter.all false
set_option maxRecDepth 100000
set_option maxHeartbeats 4000000
set_option autoImplicit false
/-! MPf: the text and the language agree (a check by computation); expressions are sound. -/
namespace MP
open PySem PySem.Spec PyProof.Rows L2

/-! ### the check -/
structure Sc where
  N : List Str
  sc : Scope
  fnb : Str → Bool
def notStar : Expr → Bool
  | .Starred _ _ => false
  | _ => true
def notSuper : Expr → Bool
  | .Call (.Name id _) [] [] _ => id != ("super" : Str)
  | _ => true
def notSet : Expr → Bool
  | .Set _ _ _ => false
  | _ => true
def notSlice : Expr → Bool
  | .Slice _ _ _ _ => false
  | _ => true
def glB (k : Sc) (x : Str) : Bool := decide (k.sc.names.lookup x = some .globalImplicit) && !(x == ("__debug__" : Str))
def visB (k : Sc) (x : Str) : Bool := (match k.sc.names.lookup x with
  | some .local => true
  | some .cell => true
  | some .free => true
  | _ => false) && !(x == ("__debug__" : Str)) && !(x == ("__classdict__" : Str))
def locB (k : Sc) (x : Str) : Bool := match k.sc.names.lookup x with
  | some .local => true
  | some .cell => k.fnb x
  | _ => false
def primN : Prim → Str
  | .len => "len" | .int => "int" | .abs => "abs" | .min => "min" | .max => "max" | .str => "str" | .tuple => "tuple" | .list => "list" | .sum => "sum" | .sorted => "sorted" | .ord => "ord"
def tyN : Ty → Str
  | .bool => "bool" | .int => "int" | .str => "str" | .list => "list" | .tuple => "tuple"
/-- a built-in name that the module does not bind -/
def biB (G : Tab) (k : Sc) (x : Str) : Bool := glB k x && G.free.contains x
def chkT (k : Sc) : Tg → Expr → Bool
  | .nm i, py => (match py with
    | .Name x _ => decide (k.N[i]? = some x) && locB k x
    | _ => false)
  | .tup js, py => (match py with
    | .Tuple es _ _ => decide (es.length = js.length) && (es.zip js).all fun q => match q.1 with
      | .Name x _ => decide (k.N[q.2]? = some x) && locB k x
      | _ => false
    | _ => false)
def tgI : Tg → List Nat
  | .nm i => [i]
  | .tup js => js
mutual
def chkE (G : Tab) : Sc → E → Expr → Bool
  | k, .var i, py => (match py with
    | .Name x _ => decide (k.N[i]? = some x) && visB k x
    | _ => false)
  | _, .non, py => (match py with
    | .Constant .none _ _ => true
    | _ => false)
  | _, .tt b, py => (match py with
    | .Constant (.bool c) _ _ => b == c
    | _ => false)
  | _, .int i, py => (match py with
    | .Constant (.int j) _ _ => decide (i = j)
    | _ => false)
  | _, .str s, py => (match py with
    | .Constant (.str x) _ _ => decide (mk s = x)
    | _ => false)
  | k, .glob i, py => (match py with
    | .Name x _ => decide ((G.globs[i]?).map (·.1) = some x) && glB k x
    | _ => false)
  | k, .bin op a b, py => (match py with
    | .BinOp x o y _ => decide (op = o) && chkE G k a x && chkE G k b y
    | _ => false)
  | k, .neg a, py => (match py with
    | .UnaryOp .USub x _ => chkE G k a x
    | _ => false)
  | k, .not a, py => (match py with
    | .UnaryOp .Not x _ => chkE G k a x
    | _ => false)
  | k, .cmp op a b, py => (match py with
    | .Compare x [o] [y] _ => decide (op = o) && chkE G k a x && chkE G k b y && notSet y
    | _ => false)
  | k, .chain op op2 a b c, py => (match py with
    | .Compare x [o, o2] [y, z] _ => decide (op = o) && decide (op2 = o2) && chkE G k a x && chkE G k b y && chkE G k c z && notSet y && notSet z
    | _ => false)
  | k, .chain3 op op2 op3 a b c d, py => (match py with
    | .Compare x [o, o2, o3] [y, z, w] _ => decide (op = o) && decide (op2 = o2) && decide (op3 = o3) && chkE G k a x && chkE G k b y && chkE G k c z && chkE G k d w && notSet w
    | _ => false)
  | k, .and a b, py => (match py with
    | .BoolOp .And [x, y] _ => chkE G k a x && chkE G k b y
    | .BoolOp .And (x :: y :: z :: r) p => chkE G k a x && chkE G k b (.BoolOp .And (y :: z :: r) p)
    | _ => false)
  | k, .or a b, py => (match py with
    | .BoolOp .Or [x, y] _ => chkE G k a x && chkE G k b y
    | .BoolOp .Or (x :: y :: z :: r) p => chkE G k a x && chkE G k b (.BoolOp .Or (y :: z :: r) p)
    | _ => false)
  | k, .ife c a b, py => (match py with
    | .IfExp t x y _ => chkE G k c t && chkE G k a x && chkE G k b y
    | _ => false)
  | k, .tup es, py => (match py with
    | .Tuple xs _ _ => chkEs G k es xs
    | _ => false)
  | k, .lst es, py => (match py with
    | .List xs _ => chkEs G k es xs
    | _ => false)
  | k, .dic es, py => (match py with
    | .Dict ks vs _ => decide (ks.length ≤ 15) && decide (ks.length = vs.length) && chkD G k es ks vs
    | _ => false)
  | k, .call f es, py => (match py with
    | .Call (.Name x _) xs [] _ => (match G.fns[f]? with
      | some d => d.cls.isNone && decide (d.name = x)
      | none => false) && glB k x && chkEs G k es xs
    | _ => false)
  | k, .new c es, py => (match py with
    | .Call (.Name x _) xs [] _ => (match G.cls[c]? with
      | some d => decide (d.name = x) && d.init.isSome
      | none => false) && glB k x && chkEs G k es xs
    | _ => false)
  | k, .meth o m es, py => (match py with
    | .Call (.Attribute y g ap) xs [] pos => decide (G.nm[m]? = some g) && chkE G k o y && chkEs G k es xs && notSuper y && (ap.endLine == pos.line) && decide (xs.length < 29)
    | _ => false)
  | k, .prim p es, py => (match py with
    | .Call (.Name x _) xs [] _ => decide (x = primN p) && biB G k x && chkEs G k es xs && !xs.isEmpty
    | _ => false)
  | k, .pm p o es, py => (match py with
    | .Call (.Attribute y g ap) xs [] pos => decide (g = pmN p) && chkE G k o y && chkEs G k es xs && notSuper y && (ap.endLine == pos.line) && decide (xs.length < 29)
    | _ => false)
  | k, .fld o f, py => (match py with
    | .Attribute y g _ => decide (G.nm[f]? = some g) && chkE G k o y && notSuper y
    | _ => false)
  | k, .ix a b, py => (match py with
    | .Subscript x y _ => chkE G k a x && chkE G k b y && notSlice y
    | _ => false)
  | k, .sl a lo hi, py => (match py with
    | .Subscript x (.Slice l u none _) _ => chkE G k a x && chkO G k lo l && chkO G k hi u
    | _ => false)
  | k, .lc elt tg it cond own, py => (match py with
    | .ListComp e [⟨t, i, ifs, 0⟩] scope _ => chkI G k tg it i t && blkC k.N k.sc scope own && notSet i && (tgI tg).all (fun j => (own.map (·.2)).contains j && decide (j < k.N.length)) &&
      chkT ⟨k.N, relS scope k.sc, fun x => scope.names.lookup x == some .cell⟩ tg t &&
      chkC G ⟨k.N, relS scope k.sc, fun x => scope.names.lookup x == some .cell⟩ cond ifs &&
      chkE G ⟨k.N, relS scope k.sc, fun x => scope.names.lookup x == some .cell⟩ elt e
    | _ => false)
  | k, .gix i e, py => (match py with
    | .Call (.Attribute (.Name x _) g ap) [y] [] pos => decide ((G.globs[i]?).map (·.1) = some x) && (match G.globs[i]? with | some (_, .tup _) => true | _ => false) && glB k x && decide (g = ("index" : Str)) && chkE G k e y && notStar y && (ap.endLine == pos.line)
    | _ => false)
  | k, .isi e t, py => (match py with
    | .Call (.Name x _) [y, .Name z _] [] _ => decide (x = ("isinstance" : Str)) && biB G k x && chkE G k e y && notStar y && decide (z = tyN t) && biB G k z
    | _ => false)
def chkEs (G : Tab) : Sc → Es → List Expr → Bool
  | _, .nil, xs => xs.isEmpty
  | k, .cons e es, xs => (match xs with
    | x :: r => chkE G k e x && notStar x && chkEs G k es r
    | [] => false)
/-- a display's keys and values, in turn -/
def chkD (G : Tab) : Sc → Es → List (Option Expr) → List Expr → Bool
  | _, .nil, ks, vs => ks.isEmpty && vs.isEmpty
  | k, .cons e es, ks, vs => (match es with
    | .cons e2 es2 => (match ks, vs with
      | some x :: ks, y :: vs => chkE G k e x && chkE G k e2 y && chkD G k es2 ks vs
      | _, _ => false)
    | .nil => false)
def chkO (G : Tab) : Sc → Eo → Option Expr → Bool
  | _, .none, x => x.isNone
  | k, .some e, x => (match x with
    | some x => chkE G k e x
    | none => false)
def chkC (G : Tab) : Sc → Eo → List Expr → Bool
  | _, .none, xs => xs.isEmpty
  | k, .some e, xs => (match xs with
    | [x] => chkE G k e x
    | _ => false)
def chkI (G : Tab) : Sc → Tg → I → Expr → Expr → Bool
  | k, _, .val e, py, _ => chkE G k e py
  | k, _, .rng1 a, py, _ => (match py with
    | .Call (.Name x _) [y] [] _ => decide (x = ("range" : Str)) && biB G k x && chkE G k a y && notStar y
    | _ => false)
  | k, _, .rng2 a b, py, _ => (match py with
    | .Call (.Name x _) [y, z] [] _ => decide (x = ("range" : Str)) && biB G k x && chkE G k a y && notStar y && chkE G k b z && notStar z
    | _ => false)
  | k, _, .rng3 a b c, py, _ => (match py with
    | .Call (.Name x _) [y, z, w] [] _ => decide (x = ("range" : Str)) && biB G k x && chkE G k a y && notStar y && chkE G k b z && notStar z && chkE G k c w && notStar w
    | _ => false)
  | k, _, .enu e, py, t => (match py with
    | .Call (.Name x _) [y] [] _ => decide (x = ("enumerate" : Str)) && biB G k x && chkE G k e y && notStar y && (match t with
      | .Tuple _ _ _ => true
      | _ => false)
    | _ => false)
end
end MP

set_option Elab.async false
set_option linter.all false
set_option maxRecDepth 100000
set_option maxHeartbeats 4000000
set_option autoImplicit false
/-! MPg: readings of expressions; the steps from one to the next. -/
namespace MP
open PySem PySem.Spec L2
open PyProof.Rows hiding St

/-! ### slots -/
structure RepS (Z : Ev) (m : List Addr) (st : Sl) (h : Hs) (σ : St) (H : Hp) : Prop where
  rep : Rep Z m h H
  len : st.length = σ.length
  sl : ∀ (i : Nat) (v : Val), st[i]? = some (some v) → ∃ x, σ[i]? = some (some x) ∧ RV Z.K m H v x
section
variable {Z : Ev} {m m' : List Addr} {h h' : Hs} {H H' : Hp} {st : Sl} {σ : St}
theorem RepS.mono (r : RepS Z m st h σ H) (e : Ext m H m' H') (r' : Rep Z m' h' H') : RepS Z m' st h' σ H' :=
  ⟨r', r.len, fun i v q => let ⟨x, a, b⟩ := r.sl i v q; ⟨x, a, RV.mono e _ _ b⟩⟩
theorem RepS.put (r : RepS Z m st h σ H) (i : Nat) {v : Val} {x : V} (rv : RV Z.K m H v x) : RepS Z m (st.set i (some v)) h (σ.set i (some x)) H := by
  refine ⟨r.rep, by simp [r.len], fun j w q => ?_⟩
  by_cases hj : i = j
  · subst hj
    by_cases hl : i < st.length
    · rw [List.getElem?_set_self hl] at q
      cases q
      exact ⟨x, List.getElem?_set_self (by rw [← r.len]; exact hl), rv⟩
    · rw [List.getElem?_eq_none (by simpa using hl)] at q
      cases q
  · rw [List.getElem?_set_ne hj] at q ⊢
    exact r.sl j w q
theorem wipeS_len (st : Sl) : ∀ vs : List Nat, (wipeS st vs).length = st.length
  | [] => rfl
  | v :: vs => by rw [wipeS, List.length_set, wipeS_len st vs]
theorem RepS.wipe (r : RepS Z m st h σ H) : ∀ vs : List Nat, RepS Z m (wipeS st vs) h (L2.wipe σ vs) H
  | [] => r
  | v :: vs => by
    have ih := RepS.wipe r vs
    refine ⟨r.rep, by rw [wipeS_len, L2.wipe_length]; exact r.len, fun j w q => ?_⟩
    rw [wipeS] at q
    rw [L2.wipe]
    by_cases hj : v = j
    · subst hj
      by_cases hl : v < (wipeS st vs).length
      · rw [List.getElem?_set_self hl] at q; cases q
      · rw [List.getElem?_eq_none (by simpa using hl)] at q; cases q
    · rw [List.getElem?_set_ne hj] at q ⊢
      exact ih.sl j w q
end
theorem wipe_set_in {σ : St} {j : Nat} {y : Option V} : ∀ {vs : List Nat}, j ∈ vs → L2.wipe (σ.set j y) vs = L2.wipe σ vs
  | v :: vs, h => by
    rw [L2.wipe, L2.wipe]
    by_cases hv : j = v
    · subst hv
      by_cases hm : j ∈ vs
      · rw [wipe_set_in hm]
      · have e : ∀ ws : List Nat, j ∉ ws → L2.wipe (σ.set j y) ws = (L2.wipe σ ws).set j y := fun ws => by
          induction ws with
          | nil => intro _; rfl
          | cons w ws ih =>
            intro hw
            rw [List.mem_cons, not_or] at hw
            rw [L2.wipe, L2.wipe, ih hw.2, List.set_comm _ _ hw.1]
        rw [e vs hm, List.set_set]
    · rw [wipe_set_in ((List.mem_cons.mp h).resolve_left hv)]
theorem wipe_ent {σ : St} : ∀ {vs : List Nat} {j : Nat}, j ∈ vs → (L2.wipe σ vs).set j none = L2.wipe σ vs
  | v :: vs, j, h => by
    rw [L2.wipe]
    by_cases hv : j = v
    · subst hv; rw [List.set_set]
    · rw [List.set_comm _ _ (Ne.symm hv), wipe_ent ((List.mem_cons.mp h).resolve_left hv)]
theorem wipe_sub {σ : St} {ws : List Nat} : ∀ {vs : List Nat}, (∀ j ∈ vs, j ∈ ws) → L2.wipe (L2.wipe σ ws) vs = L2.wipe σ ws
  | [], _ => rfl
  | v :: vs, h => by
    rw [L2.wipe, wipe_sub (fun j hj => h j (List.mem_cons_of_mem _ hj)), wipe_ent (h v List.mem_cons_self)]
theorem wipe_wipe {σ : St} {vs : List Nat} : L2.wipe (L2.wipe σ vs) vs = L2.wipe σ vs := wipe_sub fun _ h => h

/-! ### what is wanted behind a result, with what is wanted of an exception -/
abbrev WT (α : Type) := α → List Addr → Hs → Hp → Prop
abbrev WX := Nat → List Val → List Addr → Hs → Hp → Prop
def PostG {α : Type} (Z : Ev) (EX : WX) (m : List Addr) (H : Hp) (r : R α) (W : WT α) : Prop := match r with
  | .ok a h => ∀ m' H', Ext m H m' H' → Rep Z m' h H' → W a m' h H'
  | .exc c vs h => ∀ m' H', Ext m H m' H' → Rep Z m' h H' → EX c vs m' h H'
  | .stk => False
def wV (Z : Ev) (Q : VK) : WT Val := fun v m _ H => ∀ x, RV Z.K m H v x → Q x H
def wB (Q : Bool → Hp → Prop) : WT Bool := fun b _ _ H => Q b H
def wL (Z : Ev) (Q : List V → Hp → Prop) : WT (List Val) := fun vs m _ H => ∀ xs, RVs Z.K m H vs xs → Q xs H
def wO (Q : Option Int → Hp → Prop) : WT (Option Int) := fun o _ _ H => Q o H
def noE : WX := fun _ _ _ _ _ => False
section
variable {Z : Ev} {EX : WX} {m m1 : List Addr} {h : Hs} {H H1 : Hp} {α β : Type}
theorem PostG.mono {r : R α} {W : WT α} (p : PostG Z EX m H r W) (e : Ext m H m1 H1) : PostG Z EX m1 H1 r W := by
  cases r with
  | ok v h => exact fun m' H' e' r => p m' H' (e.trans e') r
  | exc _ _ _ => exact fun m' H' e' r => p m' H' (e.trans e') r
  | stk => exact p
theorem PostG.at_ {a : α} {W : WT α} (p : PostG Z EX m H (.ok a h) W) (r : Rep Z m h H) : W a m h H := p m H (Ext.refl m H) r
def R.pure {α : Type} (r : R α) : Prop := ∀ c vs h, r ≠ .exc c vs h
/-- an operation without exceptions, with more to follow -/
theorem Post.seq {r : R Val} {f : Val → Hs → R β} {W : WT β} {K : VK} (hp : r.pure) (p : PostG Z EX m H (r.bind f) W)
    (k : ∀ m1 H1 x v h1, r = .ok v h1 → Ext m H m1 H1 → Rep Z m1 h1 H1 → RV Z.K m1 H1 v x → PostG Z EX m1 H1 (f v h1) W → K x H1) : Post Z m H r K := by
  cases r with
  | ok v h1 => exact fun m' H' x e r rv => k m' H' x v h1 rfl e r rv (PostG.mono (r := f v h1) p e)
  | exc c vs h1 => exact absurd rfl (hp c vs h1)
  | stk => exact p
theorem Post.end_ {r : R Val} {Q : VK} (hp : r.pure) (p : PostG Z EX m H r (wV Z Q)) : Post Z m H r Q := by
  cases r with
  | ok v h1 => exact fun m' H' x e r rv => p m' H' e r x rv
  | exc c vs h1 => exact absurd rfl (hp c vs h1)
  | stk => exact p
theorem PostG.ofO {o : Option α} {f : α → Hs → R β} {W : WT β} (p : PostG Z EX m H ((ofO o h).bind f) W) : ∃ a, o = some a ∧ PostG Z EX m H (f a h) W := by
  cases o with
  | some a => exact ⟨a, rfl, p⟩
  | none => exact False.elim p
/-- what runs without exceptions -/
theorem PostG.noX {r : R α} {f : α → Hs → R β} {W : WT β} (p : PostG Z EX m H ((noX r).bind f) W) : PostG Z noE m H r (fun a m' h' H' => PostG Z EX m' H' (f a h') W) := by
  cases r with
  | ok v h1 => exact fun m' H' e r => PostG.mono (r := f v h1) p e
  | exc _ _ _ => exact False.elim p
  | stk => exact False.elim p
end
theorem pure_ok {α : Type} (a : α) (h : Hs) : (R.ok a h).pure := fun _ _ _ e => by cases e
theorem pure_stk {α : Type} : (R.stk : R α).pure := fun _ _ _ e => by cases e
theorem pure_ofO {α : Type} (o : Option α) (h : Hs) : (ofO o h).pure := by cases o; exact pure_stk; exact pure_ok _ _
theorem pure_bind {α β : Type} {r : R α} {f : α → Hs → R β} (h : r.pure) (hf : ∀ a h, (f a h).pure) : (r.bind f).pure := by
  cases r with
  | ok a h1 => exact hf a h1
  | exc c vs h1 => exact absurd rfl (h c vs h1)
  | stk => exact pure_stk
theorem pure_new (o : Ob) (h : Hs) : (new o h).pure := pure_ok _ _
theorem pure_ite {α : Type} {c : Prop} [Decidable c] {r s : R α} (h : r.pure) (h' : s.pure) : (if c then r else s).pure := by split <;> assumption
theorem pure_binF (op : Operator) (a b : Val) (h : Hs) : (binF op a b h).pure := by
  unfold binF
  repeat' first
    | exact pure_ok _ _
    | exact pure_stk
    | exact pure_new _ _
    | split
theorem pure_cmpF (op : CmpOp) (a b : Val) (h : Hs) : (cmpF op a b h).pure := by
  unfold cmpF
  repeat' first
    | exact pure_ok _ _
    | exact pure_stk
    | exact pure_bind (pure_ofO _ _) fun _ _ => pure_ok _ _
    | split
theorem pure_ixL (vs : List Val) (b : Val) (h : Hs) : (ixL vs b h).pure := by
  unfold ixL
  repeat' first
    | exact pure_stk
    | exact pure_ofO _ _
    | split
theorem pure_ixF (a b : Val) (h : Hs) : (ixF a b h).pure := by
  unfold ixF
  repeat' first
    | exact pure_ok _ _
    | exact pure_stk
    | exact pure_ixL _ _ _
    | exact pure_ofO _ _
    | exact pure_bind (pure_ofO _ _) fun _ _ => pure_ok _ _
    | split
theorem pure_slF (a : Val) (lo hi : Option Int) (h : Hs) : (slF a lo hi h).pure := by
  unfold slF
  repeat' first
    | exact pure_ok _ _
    | exact pure_stk
    | exact pure_new _ _
    | split
theorem pure_fldF (a : Val) (f : Nat) (h : Hs) : (fldF a f h).pure := by
  unfold fldF
  repeat' first
    | exact pure_stk
    | exact pure_ofO _ _
    | split
theorem pure_primF (p : Prim) (vs : List Val) (h : Hs) : (primF p vs h).pure := by
  unfold primF
  repeat' first
    | exact pure_ok _ _
    | exact pure_stk
    | exact pure_new _ _
    | exact pure_ofO _ _
    | split
theorem pure_pmF (p : PM) (o : Val) (vs : List Val) (h : Hs) : (pmF p o vs h).pure := by
  unfold pmF
  repeat' first
    | exact pure_ok _ _
    | exact pure_stk
    | exact pure_new _ _
    | exact pure_ofO _ _
    | exact pure_bind (pure_ofO _ _) fun _ _ => pure_ok _ _
    | split

/-! ### readings -/
section
variable (Z : Ev) (EX : WX) (C : Calls)
def tE (e : E) : TE := fun σ H Q => ∃ m st h, RepS Z m st h σ H ∧ PostG Z EX m H (ev C e st h) (wV Z Q)
def tT (e : E) : TT := fun σ H Q => ∃ m st h, RepS Z m st h σ H ∧ PostG Z EX m H (et C e st h) (wB Q)
def tEs (es : Es) : TA := fun σ H Q => ∃ m st h, RepS Z m st h σ H ∧ PostG Z EX m H (evs C es st h) (wL Z Q)
def tEo (e : Eo) : TO := fun σ H Q => ∃ m st h, RepS Z m st h σ H ∧ PostG Z EX m H (evo C e st h) (wO Q)
def tEc (e : Eo) : TT := fun σ H Q => ∃ m st h, RepS Z m st h σ H ∧ PostG Z EX m H (etc C e st h) (wB Q)
end
section
variable {Z : Ev} {EX : WX} {C : Calls} {m : List Addr} {h : Hs} {H : Hp} {st : Sl} {σ : St} {β : Type} {W : WT β}
theorem stepE {e : E} {f : Val → Hs → R β} (rs : RepS Z m st h σ H) (p : PostG Z EX m H ((ev C e st h).bind f) W) {K : VK}
    (k : ∀ m1 H1 x v h1, Ext m H m1 H1 → RepS Z m1 st h1 σ H1 → RV Z.K m1 H1 v x → PostG Z EX m1 H1 (f v h1) W → K x H1) : tE Z EX C e σ H K := by
  refine ⟨m, st, h, rs, ?_⟩
  cases q : ev C e st h with
  | ok v h1 => rw [q] at p; exact fun m' H' ex r x rv => k m' H' x v h1 ex (rs.mono ex r) rv (PostG.mono (r := f v h1) p ex)
  | exc c vs h1 => rw [q] at p; exact p
  | stk => rw [q] at p; exact p
theorem stepT {e : E} {f : Bool → Hs → R β} (rs : RepS Z m st h σ H) (p : PostG Z EX m H ((et C e st h).bind f) W) {K : Bool → Hp → Prop}
    (k : ∀ m1 H1 b h1, Ext m H m1 H1 → RepS Z m1 st h1 σ H1 → PostG Z EX m1 H1 (f b h1) W → K b H1) : tT Z EX C e σ H K := by
  refine ⟨m, st, h, rs, ?_⟩
  cases q : et C e st h with
  | ok v h1 => rw [q] at p; exact fun m' H' ex r => k m' H' v h1 ex (rs.mono ex r) (PostG.mono (r := f v h1) p ex)
  | exc c vs h1 => rw [q] at p; exact p
  | stk => rw [q] at p; exact p
theorem stepEs {es : Es} {f : List Val → Hs → R β} (rs : RepS Z m st h σ H) (p : PostG Z EX m H ((evs C es st h).bind f) W) {K : List V → Hp → Prop}
    (k : ∀ m1 H1 xs vs h1, Ext m H m1 H1 → RepS Z m1 st h1 σ H1 → RVs Z.K m1 H1 vs xs → PostG Z EX m1 H1 (f vs h1) W → K xs H1) : tEs Z EX C es σ H K := by
  refine ⟨m, st, h, rs, ?_⟩
  cases q : evs C es st h with
  | ok v h1 => rw [q] at p; exact fun m' H' ex r x rv => k m' H' x v h1 ex (rs.mono ex r) rv (PostG.mono (r := f v h1) p ex)
  | exc c vs h1 => rw [q] at p; exact p
  | stk => rw [q] at p; exact p
theorem stepEo {e : Eo} {f : Option Int → Hs → R β} (rs : RepS Z m st h σ H) (p : PostG Z EX m H ((evo C e st h).bind f) W) {K : Option Int → Hp → Prop}
    (k : ∀ m1 H1 b h1, Ext m H m1 H1 → RepS Z m1 st h1 σ H1 → PostG Z EX m1 H1 (f b h1) W → K b H1) : tEo Z EX C e σ H K := by
  refine ⟨m, st, h, rs, ?_⟩
  cases q : evo C e st h with
  | ok v h1 => rw [q] at p; exact fun m' H' ex r => k m' H' v h1 ex (rs.mono ex r) (PostG.mono (r := f v h1) p ex)
  | exc c vs h1 => rw [q] at p; exact p
  | stk => rw [q] at p; exact p
theorem stepEc {e : Eo} {f : Bool → Hs → R β} (rs : RepS Z m st h σ H) (p : PostG Z EX m H ((etc C e st h).bind f) W) {K : Bool → Hp → Prop}
    (k : ∀ m1 H1 b h1, Ext m H m1 H1 → RepS Z m1 st h1 σ H1 → PostG Z EX m1 H1 (f b h1) W → K b H1) : tEc Z EX C e σ H K := by
  refine ⟨m, st, h, rs, ?_⟩
  cases q : etc C e st h with
  | ok v h1 => rw [q] at p; exact fun m' H' ex r => k m' H' v h1 ex (rs.mono ex r) (PostG.mono (r := f v h1) p ex)
  | exc c vs h1 => rw [q] at p; exact p
  | stk => rw [q] at p; exact p
end
/-! ### weaker readings -/
section
variable {X : Cx}
theorem pe_any {e : Expr} {t : TE} (h : ∀ σ H Q, t σ H Q → ∃ t', PE X e t' ∧ t' σ H Q) : PE X e t := ⟨fun pins s σ H Q I q => let ⟨_, p, q'⟩ := h σ H Q q; p.run pins s σ H Q I q'⟩
theorem pe_w {e : Expr} {t t' : TE} (p : PE X e t) (h : ∀ σ H Q, t' σ H Q → t σ H Q) : PE X e t' := ⟨fun pins s σ H Q I q => p.run pins s σ H Q I (h σ H Q q)⟩
theorem pt_w {e : Expr} {t t' : TT} (p : PT X e t) (h : ∀ σ H Q, t' σ H Q → t σ H Q) : PT X e t' := ⟨fun pins s σ H Q I q => p.run pins s σ H Q I (h σ H Q q)⟩
theorem pw_w {e : Expr} {t t' : TT} (p : PW X e t) (h : ∀ σ H Q, t' σ H Q → t σ H Q) : PW X e t' := ⟨fun w pins s σ H Q I q => p.run w pins s σ H Q I (h σ H Q q)⟩
theorem pa_w {e : List Expr} {t t' : TA} (p : PA X e t) (h : ∀ σ H Q, t' σ H Q → t σ H Q) : PA X e t' := ⟨fun pos pins s σ H Q I q => p.run pos pins s σ H Q I (h σ H Q q)⟩
theorem po_w {e : Option Expr} {t t' : TO} (p : PO X e t) (h : ∀ σ H Q, t' σ H Q → t σ H Q) : PO X e t' := ⟨fun pins s σ H Q I q => p.run pins s σ H Q I (h σ H Q q)⟩
theorem pts_w {e : List Expr} {t t' : TT} (p : PTs X e t) (h : ∀ σ H Q, t' σ H Q → t σ H Q) : PTs X e t' := ⟨fun pins s σ H Q I q => p.run pins s σ H Q I (h σ H Q q)⟩
theorem pi_any {tg e : Expr} {t : TI} (h : ∀ σ H Q, t σ H Q → ∃ t', PI X tg e t' ∧ t' σ H Q) : PI X tg e t := ⟨fun pins s σ H Q I q => let ⟨_, p, q'⟩ := h σ H Q q; p.run pins s σ H Q I q'⟩
theorem ps_any {e : Stmt} {t : TS} (h : ∀ D σ H, t D σ H → ∃ t', PS X e t' ∧ t' D σ H) : PS X e t := ⟨fun pins s σ H D I q => let ⟨_, p, q'⟩ := h D σ H q; p.run pins s σ H D I q'⟩
theorem ps_w {e : Stmt} {t t' : TS} (p : PS X e t) (h : ∀ D σ H, t' D σ H → t D σ H) : PS X e t' := ⟨fun pins s σ H D I q => p.run pins s σ H D I (h D σ H q)⟩
theorem pss_w {e : List Stmt} {t t' : TS} (p : PSs X e t) (h : ∀ D σ H, t' D σ H → t D σ H) : PSs X e t' := ⟨fun pins s σ H D I q => p.run pins s σ H D I (h D σ H q)⟩
end
/-! ### the text -/
section
variable {env : Env}
theorem star_cons {x : Expr} {r : List Expr} (h : notStar x = true) : starEach (x :: r) env = (false, eval x env) :: starEach r env := by
  cases x <;> first | rfl | (exact Bool.noConfusion h)
theorem star_any {pos : Pos} : ∀ {xs : List Expr}, xs.all notStar = true → (backTo pos (starEach xs env)).any (·.1) = false
  | [], _ => rfl
  | x :: r, h => by
    rw [List.all_cons, Bool.and_eq_true] at h
    rw [star_cons h.1]
    show (false || (backTo pos (starEach r env)).any (·.1)) = false
    rw [star_any h.2]
    rfl
theorem star_all {pos : Pos} : ∀ {xs : List Expr}, xs.all notStar = true → (backTo pos (starEach xs env)).all (fun x => !x.1) = true
  | [], _ => rfl
  | x :: r, h => by
    rw [List.all_cons, Bool.and_eq_true] at h
    rw [star_cons h.1]
    show (true && (backTo pos (starEach r env)).all (fun x => !x.1)) = true
    rw [star_all h.2]
    rfl
theorem few_ok {pos : Pos} {xs : List Expr} (h : xs.all notStar = true) (hl : xs.length < 29) :
    ((backTo pos (starEach xs env)).all (fun x => !x.1) && (backToKw pos (keywordEach [] env)).all (fun x => x.1.isSome)
      && decide (xs.length + ([] : List Keyword).length + (if ([] : List Keyword).isEmpty then 0 else 1) < 30)) = true := by
  rw [star_all h]
  show (true && true && decide (xs.length + 0 + 0 < 30)) = true
  rw [decide_eq_true (by omega)]
  rfl
theorem abase {o : Expr} {f : Str} {w : Sem Value} (h : notSuper o = true) : attributeBase o f env w = w := by
  cases o with
  | Call g a k p =>
    cases g with
    | Name id p2 =>
      cases a with
      | nil =>
        cases k with
        | nil => exact abase_call h
        | cons _ _ => rfl
      | cons _ _ => rfl
    | _ => rfl
  | _ => rfl
theorem nomark_set {op : CmpOp} {b : Expr} (h : notSet b = true) : behindInMarks op b = false := by
  cases b <;> first | rfl | (exact Bool.noConfusion h)
theorem lastm {op op2 : CmpOp} {b c : Expr} (h2 : notSet c = true) : lastMarks [op, op2] [b, c] = false := nomark_set h2
theorem noset_fold {b : Expr} (h : notSet b = true) : ∀ x, foldedSetIterable b env x = pure x := by
  intro x
  cases b <;> first | rfl | (exact Bool.noConfusion h)
theorem plainIx {b : Expr} (h : notSlice b = true) : PlainIx b := by
  intro o i
  cases b <;> first | rfl | (exact Bool.noConfusion h)
theorem pt_ife {X : Cx} {c a b : Expr} {pos : Pos} {tc ta tb : TT} (hc : PT X c tc) (ha : PT X a ta) (hb : PT X b tb) :
    PT X (.IfExp c a b pos) (fun σ H Q => tc σ H fun k H1 => if k = true then ta σ H1 Q else tb σ H1 Q) := by
  refine ⟨fun pins s σ H Q I h => ?_⟩
  rw [arm_isTrue_IfExp]
  refine wpAny_bind (thn (hc.run pins s σ H _ I h) fun k s1 ⟨H1, I1, q1⟩ => ?_)
  cases k with
  | true => rw [if_pos rfl]; exact ha.run pins s1 σ H1 Q I1 q1
  | false => rw [if_neg Bool.false_ne_true]; exact hb.run pins s1 σ H1 Q I1 q1
end
end MP

set_option Elab.async false
set_option linter.all false
set_option maxRecDepth 100000
set_option maxHeartbeats 4000000
set_option autoImplicit false
/-! MPh: targets, what is walked, displays, comprehensions: by values. -/
namespace MP
open PySem PySem.Spec L2
open PyProof.Rows hiding St

/-! ### targets -/
def gNs : List Nat → TGs
  | [] => gNil
  | j :: js => gCons (gName j) (gNs js)
def gOf (K : PySem.W.Frag) : Tg → TG
  | .nm i => gName i
  | .tup js => gTup K js.length (gNs js)
section
variable {Z : Ev} {m : List Addr} {h : Hs} {H : Hp}
theorem gNs_ok : ∀ {js : List Nat} {vs : List Val} {xs : List V} {st st1 : Sl} {σ : St} {Q : St → Hp → Prop}, RepS Z m st h σ H → RVs Z.K m H vs xs → setTs js vs st = some st1 →
    (∀ σ1, RepS Z m st1 h σ1 H → (∀ ws : List Nat, (∀ j ∈ js, j ∈ ws) → L2.wipe σ1 ws = L2.wipe σ ws) → Q σ1 H) → gNs js xs σ H Q
  | [], [], _, st, st1, σ, Q, rs, rv, e, k => by
    cases rv
    cases e
    exact ⟨rfl, k σ rs fun _ _ => rfl⟩
  | [], _ :: _, _, _, _, _, _, _, _, e, _ => by cases e
  | _ :: _, [], _, _, _, _, _, _, _, e, _ => by cases e
  | j :: js, v :: vs, _, st, st1, σ, Q, rs, rv, e, k => by
    cases rv with
    | cons r1 r2 =>
      refine ⟨_, _, rfl, ?_⟩
      refine gNs_ok (rs.put j r1) r2 e fun σ1 rs1 hw => k σ1 rs1 fun ws hj => ?_
      rw [hw ws fun i hi => hj i (List.mem_cons_of_mem _ hi), wipe_set_in (hj j List.mem_cons_self)]
theorem setTs_len : ∀ {js : List Nat} {vs : List Val} {st st1 : Sl}, setTs js vs st = some st1 → vs.length = js.length
  | [], [], _, _, _ => rfl
  | [], _ :: _, _, _, e => by cases e
  | _ :: _, [], _, _, e => by cases e
  | j :: js, v :: vs, st, st1, e => by rw [List.length_cons, List.length_cons, setTs_len (js := js) e]
theorem setT_ok {t : Tg} {v : Val} {x : V} {st st1 : Sl} {σ : St} {Q : St → Hp → Prop} (rs : RepS Z m st h σ H) (rv : RV Z.K m H v x) (e : setT t v st = some st1)
    (k : ∀ σ1, RepS Z m st1 h σ1 H → (∀ ws : List Nat, (∀ j ∈ tgI t, j ∈ ws) → L2.wipe σ1 ws = L2.wipe σ ws) → Q σ1 H) : gOf Z.K t x σ H Q := by
  cases t with
  | nm i =>
    cases e
    exact k _ (rs.put i rv) fun ws hj => wipe_set_in (hj i List.mem_cons_self)
  | tup js =>
    cases rv with
    | tup h1 h2 => exact ⟨_, _, rfl, h1, by rw [← h2.len]; exact setTs_len e, gNs_ok rs h2 e k⟩
    | _ => cases e
end
section
variable {k : Sc} {X : Cx}
theorem locB_loc {x : Str} (h : locB k x = true) (hs : X.env.scope = k.sc) : Loc X.env.scope x := by
  unfold locB at h
  rw [hs]
  cases q : k.sc.names.lookup x with
  | none => rw [q] at h; cases h
  | some w =>
    rw [q] at h
    cases w <;> first | exact .inl q | exact .inr q | cases h
theorem locB_fn {x : Str} (h : locB k x = true) (hs : X.env.scope = k.sc) (hf : ∀ x, k.fnb x = true → X.fn x = true) : X.fn x = true ∨ X.env.scope.names.lookup x = some .local := by
  unfold locB at h
  rw [hs]
  cases q : k.sc.names.lookup x with
  | none => rw [q] at h; cases h
  | some w =>
    rw [q] at h
    cases w <;> first | exact .inr rfl | exact .inl (hf x h) | cases h
theorem pg_nm {i : Nat} {x : Str} {p : Pos} (hN : X.N = k.N) (nd : k.N.Nodup) (hs : X.env.scope = k.sc) (hf : ∀ x, k.fnb x = true → X.fn x = true) (hi : k.N[i]? = some x) (hl : locB k x = true) : PG X (.Name x p) (gName i) :=
  pg_name (by rw [hN]; exact nd) (by rw [hN]; exact hi) (locB_loc hl hs) (locB_fn hl hs hf)
def nmQ (k : Sc) (q : Expr × Nat) : Bool := match q.1 with
  | .Name x _ => decide (k.N[q.2]? = some x) && locB k x
  | _ => false
theorem nms_all : ∀ {es : List Expr} {js : List Nat}, es.length = js.length → (es.zip js).all (nmQ k) = true → (assignEach es X.env).findIdx? (·.1) = none
  | [], _, _, _ => rfl
  | e :: es, [], h, _ => by cases h
  | e :: es, j :: js, h, q => by
    rw [List.zip_cons_cons, List.all_cons, Bool.and_eq_true] at q
    have ih := nms_all (es := es) (js := js) (by simpa using h) q.2
    cases e <;> first
      | (exact Bool.noConfusion q.1)
      | (show List.findIdx? (·.1) ((false, _) :: assignEach es X.env) = none
         rw [List.findIdx?_cons, ih]
         rfl)
theorem nms_len : ∀ {es : List Expr}, (assignEach es X.env).length = es.length
  | [] => rfl
  | e :: es => by
    have ih := nms_len (es := es)
    cases e <;> (show (_ :: assignEach es X.env).length = _; rw [List.length_cons, List.length_cons, ih])
theorem pgs_nms (hN : X.N = k.N) (nd : k.N.Nodup) (hs : X.env.scope = k.sc) (hf : ∀ x, k.fnb x = true → X.fn x = true) : ∀ {es : List Expr} {js : List Nat}, es.length = js.length → (es.zip js).all (nmQ k) = true → PGs X es (gNs js)
  | [], [], _, _ => pgs_nil
  | [], _ :: _, h, _ => by cases h
  | e :: es, [], h, _ => by cases h
  | e :: es, j :: js, h, q => by
    rw [List.zip_cons_cons, List.all_cons, Bool.and_eq_true] at q
    have ih := pgs_nms hN nd hs hf (es := es) (js := js) (by simpa using h) q.2
    cases e with
    | Name x p =>
      have q1 := q.1
      simp only [nmQ, Bool.and_eq_true, decide_eq_true_eq] at q1
      exact pgs_cons (pg_nm hN nd hs hf q1.1 q1.2) ih rfl
    | _ => exact Bool.noConfusion q.1
theorem pg_of (hN : X.N = k.N) (nd : k.N.Nodup) (hs : X.env.scope = k.sc) (hf : ∀ x, k.fnb x = true → X.fn x = true) (hc : X.calm = true) {t : Tg} {py : Expr} (h : chkT k t py = true) : PG X py (gOf X.K t) := by
  cases t with
  | nm i =>
    cases py with
    | Name x p =>
      simp only [chkT, Bool.and_eq_true, decide_eq_true_eq] at h
      exact pg_nm hN nd hs hf h.1 h.2
    | _ => exact Bool.noConfusion h
  | tup js =>
    cases py with
    | Tuple es kk p =>
      simp only [chkT, Bool.and_eq_true, decide_eq_true_eq] at h
      have h2 : (es.zip js).all (nmQ k) = true := h.2
      exact pg_tup hc (pgs_nms hN nd hs hf h.1 h2) (by rw [nms_len]; exact h.1) (nms_all h.1 h2)
    | _ => exact Bool.noConfusion h
end

/-! ### what is walked -/
def JR (Z : Ev) (m : List Addr) (H : Hp) (src : Src) (J : It) : Prop := ∀ m' h' H', Ext m H m' H' → Rep Z m' h' H' → src.ok h' = true → ∀ i,
  (∀ v, src.items[i]? = some v → J.go i H' ∧ ∀ x H'', J.yld i H' x H'' → ∃ m'', Ext m' H' m'' H'' ∧ Rep Z m'' h' H'' ∧ RV Z.K m'' H'' v x) ∧ (src.items.length ≤ i → J.stop i H')
section
variable {Z : Ev} {m : List Addr} {h : Hs} {H : Hp}
theorem jr_tup {a : Addr} {vs : List Val} {xs : List V} (hq : SqT Z.K H a xs) (rv : RVs Z.K m H vs xs) : JR Z m H (.vals vs) (Itt Z.K a) := by
  intro m' h' H' e r _ i
  have rv' := RVs.mono e _ _ rv
  refine ⟨fun v hv => ?_, fun hl => ⟨xs, e.sqT hq, by rw [← rv.len]; exact hl⟩⟩
  obtain ⟨x, hx, rx⟩ := rv'.get hv
  refine ⟨⟨xs, x, e.sqT hq, hx⟩, fun y H'' q => ?_⟩
  obtain ⟨q1, q2⟩ := q
  subst q1
  have := q2 xs (e.sqT hq)
  rw [hx] at this
  cases this
  exact ⟨m', Ext.refl _ _, r, rx⟩
theorem jr_str (s : List Nat) : JR Z m H (.vals (s.map fun c => .str [c])) (Its (mk s)) := by
  intro m' h' H' e r _ i
  refine ⟨fun v hv => ?_, fun hl => by simpa [Src.items, Its, mk] using hl⟩
  simp only [Src.items, List.getElem?_map, Option.map_eq_some_iff] at hv
  obtain ⟨c, hc, rfl⟩ := hv
  refine ⟨by have := (List.getElem?_eq_some_iff.mp hc).1; simpa [Its, mk] using this, fun y H'' q => ?_⟩
  obtain ⟨q1, c', q2, q3⟩ := q
  subst q1 q3
  have : s[i]? = some c' := by simpa [mk] using q2
  rw [hc] at this
  cases this
  exact ⟨m', Ext.refl _ _, r, .str [c]⟩
theorem rangeV_len (c : Int) : ∀ (n : Nat) (lo : Int), (rangeV lo c n).length = n
  | 0, _ => rfl
  | n + 1, lo => by rw [rangeV, List.length_cons, rangeV_len c n]
theorem rangeV_get (c : Int) : ∀ (n : Nat) (lo : Int) (i : Nat) (v : Val), (rangeV lo c n)[i]? = some v → i < n ∧ v = .int (lo + (i : Int) * c)
  | 0, _, _, _, h => by simp [rangeV] at h
  | n + 1, lo, 0, v, h => by
    simp only [rangeV, List.getElem?_cons_zero, Option.some.injEq] at h
    exact ⟨by omega, by rw [← h]; congr 1; simp⟩
  | n + 1, lo, i + 1, v, h => by
    simp only [rangeV, List.getElem?_cons_succ] at h
    obtain ⟨h1, h2⟩ := rangeV_get c n _ i v h
    refine ⟨by omega, by rw [h2]; congr 1; push_cast; rw [Int.add_mul]; omega⟩
theorem jr_rng (lo : Int) (n : Nat) : JR Z m H (.vals (rangeV lo 1 n)) (Itr lo n) := by
  intro m' h' H' e r _ i
  refine ⟨fun v hv => ?_, fun hl => by simpa [Src.items, Itr, rangeV_len] using hl⟩
  obtain ⟨h1, h2⟩ := rangeV_get 1 n lo i v hv
  refine ⟨h1, fun y H'' q => ?_⟩
  obtain ⟨q1, q2⟩ := q
  subst q1 q2
  refine ⟨m', Ext.refl _ _, r, ?_⟩
  rw [h2, Int.mul_one]
  exact .int _
theorem jr_rngC (lo c : Int) (n : Nat) : JR Z m H (.vals (rangeV lo c n)) (Itc lo c n) := by
  intro m' h' H' e r _ i
  refine ⟨fun v hv => ?_, fun hl => by simpa [Src.items, Itc, rangeV_len] using hl⟩
  obtain ⟨h1, h2⟩ := rangeV_get c n lo i v hv
  refine ⟨h1, fun y H'' q => ?_⟩
  obtain ⟨q1, q2⟩ := q
  subst q1 q2
  refine ⟨m', Ext.refl _ _, r, ?_⟩
  rw [h2]
  exact .int _
theorem srcok_lst {n : Nat} {vs : List Val} (h : Hs) (e : (Src.lst n vs).ok h = true) : h[n]? = some (.lst vs) ∨ h[n]? = some (.frz vs) := by
  simp only [Src.ok] at e
  split at e
  · rename_i ws q; rw [Val.beqs_eq _ _ e] at q; exact .inl q
  · rename_i ws q; rw [Val.beqs_eq _ _ e] at q; exact .inr q
  · cases e
theorem jr_lst {n : Nat} {a : Addr} {vs : List Val} (hn : m[n]? = some a) : JR Z m H (.lst n vs) (Itl Z.K a) := by
  intro m' h' H' e r ok i
  obtain ⟨xs, hq, rv⟩ := r.seqL (e.pre _ _ hn) (srcok_lst h' ok)
  refine ⟨fun v hv => ?_, fun hl => ⟨xs, hq, by rw [← rv.len]; exact hl⟩⟩
  obtain ⟨x, hx, rx⟩ := rv.get hv
  refine ⟨⟨xs, x, hq, hx⟩, fun y H'' q => ?_⟩
  obtain ⟨q1, q2⟩ := q
  subst q1
  have := q2 xs hq
  rw [hx] at this
  cases this
  exact ⟨m', Ext.refl _ _, r, rx⟩
theorem enumV_len : ∀ (vs : List Val) (k : Nat), (enumV k vs).length = vs.length
  | [], _ => rfl
  | v :: vs, k => by rw [enumV, List.length_cons, List.length_cons, enumV_len vs]
theorem enumV_get : ∀ (vs : List Val) (k i : Nat) (w : Val), (enumV k vs)[i]? = some w → ∃ v, vs[i]? = some v ∧ w = .tup [.int ((k + i : Nat) : Int), v]
  | [], _, _, _, h => by simp [enumV] at h
  | v :: vs, k, 0, w, h => by
    simp only [enumV, List.getElem?_cons_zero, Option.some.injEq] at h
    exact ⟨v, rfl, by rw [← h]; rfl⟩
  | v :: vs, k, i + 1, w, h => by
    simp only [enumV, List.getElem?_cons_succ] at h
    obtain ⟨u, h1, h2⟩ := enumV_get vs (k + 1) i w h
    exact ⟨u, by simpa using h1, by rw [h2]; congr 4; omega⟩
theorem jr_enu {n : Nat} {a : Addr} {vs : List Val} (hn : m[n]? = some a) : JR Z m H (.enu n vs) (Ite Z.K a) := by
  intro m' h' H' e r ok i
  obtain ⟨xs, hq, rv⟩ := r.seqL (e.pre _ _ hn) (srcok_lst (n := n) (vs := vs) h' ok)
  refine ⟨fun w hv => ?_, fun hl => ⟨xs, hq, by rw [← rv.len]; simpa [Src.items, enumV_len] using hl⟩⟩
  obtain ⟨v, hv, ew⟩ := enumV_get vs 0 i w hv
  obtain ⟨x, hx, rx⟩ := rv.get hv
  refine ⟨⟨xs, x, hq, hx⟩, fun y H'' q => ?_⟩
  obtain ⟨T, x', e1, hT, e2, q2⟩ := q
  subst e1 e2
  have := q2 xs hq
  rw [hx] at this
  cases this
  have ex : Ext m' H' m' (upd H' T (.tup [.int (i : Nat), x])) := ext_new0 hT
  refine ⟨m', ex, r.lay hT, ?_⟩
  rw [ew]
  refine .tup (SqT.of upd_same) (.cons ?_ (.cons (RV.mono ex _ _ rx) .nil))
  rw [Nat.zero_add]
  exact .int _
end

/-! ### displays of dicts -/
def pairV : List V → List (V × V)
  | x :: y :: r => (x, y) :: pairV r
  | _ => []
section
variable {K : PySem.W.Frag} {m : List Addr} {H : Hp}
theorem pairs_rv : ∀ {vs : List Val} {xs : List V} {kvs : List (Ky × Val)}, RVs K m H vs xs → pairsOf vs = some kvs → ∃ kxs : List (Key × V), pairV xs = kxs.map (fun kv => (kV kv.1, kv.2)) ∧ DR K m H kvs kxs
  | [], _, kvs, rv, e => by cases rv; cases e; exact ⟨[], rfl, .nil⟩
  | [_], _, _, _, e => by cases e
  | k :: v :: r, _, kvs, rv, e => by
    cases rv with
    | cons r1 rr =>
      cases rr with
      | cons r2 rr =>
        simp only [pairsOf] at e
        split at e
        · rename_i ky ps e1 e2
          cases e
          obtain ⟨kxs, z1, z2⟩ := pairs_rv rr e2
          refine ⟨(kyK ky, _) :: kxs, ?_, .cons r2 z2⟩
          rw [toKy_rv r1 e1]
          show (_, _) :: pairV _ = _
          rw [z1]
          rfl
        · cases e
theorem DR.fold : ∀ {more : List (Ky × Val)} {mx : List (Key × V)} {r : List (Ky × Val)} {s : List (Key × V)}, DR K m H more mx → DR K m H r s → DR K m H (more.foldl (fun acc kv => dput acc kv.1 kv.2) r) (mx.foldl (fun acc kv => putK acc kv.1 kv.2) s)
  | _, _, _, _, .nil, d => d
  | _, _, _, _, .cons a b, d => by
    rw [List.foldl_cons, List.foldl_cons]
    exact DR.fold b (d.put a)
end
/-! ### enumerate of a tuple -/
theorem enumNew_tup (t : Addr) (xs : Array Value) (k : Nat) (dd : Option Addr) (ss : Array (Option Value)) :
    Meets (Builtin.«enumerate.__new__» ⟨[.type "enumerate", .ref t], []⟩) (fun _ R s0 => s0.heap.get? t = some { cls := .type "tuple", dict := dd, data := .seq xs k, slots := ss } ∧
      R (.ok (.ret (.ref (s0.heap.push { cls := .type "tuple_iterator", data := .fields #[.ref t, .int 0 0] }).objs.size)))
        { s0 with heap := (s0.heap.push { cls := .type "tuple_iterator", data := .fields #[.ref t, .int 0 0] }).push { cls := .type "enumerate", data := .fields #[.none, .bool false, .ref s0.heap.objs.size, rawInt 0, .none, .none] } }) :=
  .of_wp fun prog w A R s0 z => by
    obtain ⟨hp, g, d, tk, os⟩ := s0; obtain ⟨ht, z⟩ := z
    have sub0 := sub_enumerate
    have hT : Heap.IsTuple (Shared.heap ⟨hp, g, d, tk, os⟩) t xs := ⟨_, ht, rfl, k, rfl⟩
    wp_walk using AutoSeq1.wpAny_loadPart' ht
    refine wpAny_stack_any fun _ => wpAny_pure ?_
    split
    · rename_i c _ _ _ _ _
      cases (c == Value.type "enumerate")
      · wp_walk using AutoSeq1.wpAny_loadPart' ht, wpAny_pyIter_tuple hT
        exact ⟨_, rfl, z⟩
      · wp_walk using AutoSeq1.wpAny_loadPart' ht, wpAny_pyIter_tuple hT
        exact ⟨_, rfl, z⟩
    · wp_walk using AutoSeq1.wpAny_loadPart' ht, wpAny_pyIter_tuple hT
      exact ⟨_, rfl, z⟩
section
variable {prog : Program} {w : World} {A : Around} {E : Value → Shared → Prop} {s : Shared}
theorem call_enum_tup {t : Addr} {xs : Array Value} {Q : Value → Shared → Prop} (hT : s.heap.IsTuple t xs)
    (z : ∀ h', IsEnum h' (s.heap.objs.size + 1) s.heap.objs.size 0 .none → h'.IsTupleIter s.heap.objs.size t 0 → h'.objs.size = s.heap.objs.size + 2 →
      (∀ b o, s.heap.get? b = some o → h'.get? b = some o) → Q (.ref (s.heap.objs.size + 1)) { s with heap := h' }) :
    wpAny (model prog w) A (call (.type "enumerate") [.ref t]) Q E s := by
  obtain ⟨⟨c0, dd, dt, ss⟩, ht, hc, k, hd⟩ := hT
  replace hc : c0 = .type "tuple" := hc
  replace hd : dt = .seq xs k := hd
  subst hc hd
  refine callType_new F.called_enumerate (by decide) (F.typeCall_enumerate_1 _) (F.newCall_enumerate_1 _) (fun ob => F.args_object_init_2 ob _) F.entry_enumerate_new (enumNew_tup t xs k dd ss) ⟨ht, ?_⟩
  generalize e1 : s.heap.push { cls := .type "tuple_iterator", data := .fields #[.ref t, .int 0 0] } = h1
  have z1 : h1.objs.size = s.heap.objs.size + 1 := by rw [← e1]; exact Heap.size_push ..
  show _ ∧ _
  rw [z1]
  have g1 : h1.get? s.heap.objs.size = some { cls := .type "tuple_iterator", data := .fields #[.ref t, .int 0 0] } := by rw [← e1]; exact Heap.get?_push_size _ rfl
  have g2 : ∀ b o, s.heap.get? b = some o → h1.get? b = some o := fun b o q => by rw [← e1]; exact Heap.get?_push_of_some _ q
  have g3 : IsEnum (h1.push { cls := .type "enumerate", data := .fields #[.none, .bool false, .ref s.heap.objs.size, rawInt 0, .none, .none] }) (s.heap.objs.size + 1) s.heap.objs.size 0 .none := by
    have q := Heap.get?_push_size h1 (o := { cls := .type "enumerate", data := .fields #[.none, .bool false, .ref s.heap.objs.size, rawInt 0, .none, .none] }) rfl
    rw [z1] at q
    exact q
  exact ⟨⟨_, g3, rfl⟩, z _ g3 ⟨_, Heap.get?_push_of_some _ g1, rfl, rfl⟩ (by rw [Heap.size_push, z1]) fun b o q => Heap.get?_push_of_some _ (g2 b o q)⟩
theorem next_enum_tup_end {e it t : Addr} {i : Nat} {xs : Array Value} {old : Value} {Q : Option Value → Shared → Prop} (hh : A.handled = none)
    (he : IsEnum s.heap e it i old) (hit : s.heap.IsTupleIter it t i) (hT : s.heap.IsTuple t xs) (hx : xs[i]? = none)
    (z : ∀ h', Heap.ExtBut it s.heap h' → Q none { s with heap := h' }) : wpAny (model prog w) A (pyNext (.ref e)) Q E s := by
  have ty : s.TypeIs (.ref e) "enumerate" := ⟨_, he, rfl⟩
  unfold pyNext
  refine wpAny_bind (wpAny_attempt (wpAny_callSpecial?_slot (name := Str.ofString "__next__") ty F.slot_enumerate_next (wpAny_call_entry F.slot_enumerate_next ty F.entry_enumerate_next ?_ (F.args_enumerate_next_1 _))))
  show wpAny _ _ (field (.ref e) 2 >>= _) _ _ _
  refine wpAny_bind (wpAny_field he rfl (x := .ref it) rfl (wpAny_bind (wpAny_nextOf_tuple_end hh hit hT hx fun h' x k1 k2 => ?_)))
  obtain ⟨o, k3, k4⟩ := k2
  exact wpAny_bind (wpAny_isInstance (T := "StopIteration") (b := true) ⟨o, k3, k4⟩ isSubtype_stop (wpAny_pure (z _ k1)))
end
/-- the tuple at a, each item in a new pair -/
def IteT (K : PySem.W.Frag) (a : Addr) : It :=
  ⟨fun i H => ∃ (xs : List V) (x : V), SqT K H a xs ∧ xs[i]? = some x, fun i H v H' => ∃ T x, v = .ref T ∧ H T = none ∧ H' = upd H T (.tup [.int (i : Nat), x]) ∧ ∀ xs, SqT K H a xs → xs[i]? = some x, fun i H => ∃ xs : List V, SqT K H a xs ∧ xs.length ≤ i⟩
theorem turn_enumT {P : Program} {w : World} {K : PySem.W.Frag} {elts : List Expr} {kk : Nat} {tpos : Pos} (a e it : Addr) :
    Turn P w K (.Tuple elts kk tpos) (IteT K a) [e, it] e (fun i h => (∃ old, IsEnum h e it ((i : Nat) : Int) old) ∧ h.IsTupleIter it a i ∧ e ≠ it) where
  mem := by simp
  obj := fun i h st b hb => by
    obtain ⟨⟨old, k1⟩, ⟨o, ho, hc, hd⟩, _⟩ := st
    rcases (by simpa using hb : b = e ∨ b = it) with z | z
    · rw [z]; exact ⟨_, k1, fun v q => nomatch q⟩
    · rw [z]; exact ⟨o, ho, fun v q => by rw [hd] at q; cases q⟩
  keep := fun i h h' st k => let ⟨⟨old, k1⟩, k2, k3⟩ := st; ⟨⟨old, k e (by simp) _ k1⟩, k2.at fun o q => k it (by simp) o q, k3⟩
  item := by
    intro X hP hw hK hc i pins s σ H E I hf st hg
    subst hP hw hK
    obtain ⟨⟨old, k1⟩, k2, k3⟩ := st
    obtain ⟨xs, x, hq, hx⟩ := hg
    obtain ⟨its, rv, p, hz⟩ := I.tuple hq
    have pT : s.heap.IsTuple a its.toArray := p
    obtain ⟨u, hu, ru⟩ := rv.get hx
    have ei : e < s.heap.objs.size := Heap.lt_size k1
    have ii : it < s.heap.objs.size := by obtain ⟨_, q, _⟩ := k2; exact Heap.lt_size q
    have na : a ≠ it := fun q => by
      subst q
      obtain ⟨o1, q1, q2, _⟩ := pT
      obtain ⟨o2, q3, q4, _⟩ := k2
      rw [q1] at q3
      cases q3
      rw [q2] at q4
      exact absurd q4 (by simp)
    have ea : e ∉ [it, a] := fun q => by
      rcases (by simpa using q : e = it ∨ e = a) with q | q
      · exact k3 q
      · subst q
        obtain ⟨o1, q1, q2, _⟩ := pT
        have k1' := k1
        unfold IsEnum at k1'
        rw [q1] at k1'
        cases k1'
        exact absurd q2 (by simp)
    have ha : X.A.in1.handled = none := I.ok.hd hc
    have il : i < its.toArray.size := by
      have := (List.getElem?_eq_some_iff.mp hu).1
      simpa using this
    refine wpAny_pyNext_enum_itemD (Draws.tuple ha it a na its.toArray) k1 ⟨k2, pT⟩ il k3 ea fun y h' tk hP ho hs hT hsz hk => ?_
    have yu : y = u := by
      have hP2 : its[i]? = some y := by simpa using hP
      rw [hu] at hP2
      exact (Option.some.inj hP2).symm
    subst yu
    refine ⟨_, rfl, wpAny_letOwnedTupleGo_enum (s := { s with heap := h', toks := tk + 1 }) ho fun h'' he' sb => ?_⟩
    have hT2 : h''.get? s.heap.objs.size = some { cls := .type "tuple", data := .seq #[.int i tk, y] } := (sb.2 _ (Nat.ne_of_gt ei)).trans hT
    have new : ObjOk X.prog X.w (upd H s.heap.objs.size (.tup [.int (i : Nat), x])) h'' s.heap.objs.size (.tup [.int (i : Nat), x]) := ⟨by show 2 ≤ sizeLine; decide, [.int i tk, y], .cons ⟨_, rfl⟩ (.cons ru .nil), ⟨_, hT2, rfl, _, rfl⟩⟩
    have I1 : Inv X pins σ (upd H s.heap.objs.size (.tup [.int (i : Nat), x])) { s with heap := h'', toks := tk + 1 } :=
      I.turnedNew (ch := [e, it]) (fun b ob hb q => (sb.2 b (fun z => hb (by simp [z]))).trans (hk b ob (fun z => hb (by simp [z])) (fun z => hb (by simp [z])) q)) hf (Nat.le_refl _) new
    refine ⟨.ref s.heap.objs.size, _, I1, rfl, ⟨_, x, rfl, I.hok.fresh (Nat.le_refl _), rfl, fun ys hy => by rw [I.tuple_inj hy hq]; exact hx⟩, ⟨⟨y, ?_⟩, hs.1.at fun o q => (sb.2 it (Ne.symm k3)).trans q, k3⟩, fun b hb => ?_⟩
    · rw [show ((i + 1 : Nat) : Int) = (i : Int) + 1 from by omega]
      exact he'
    · have lb : b < s.heap.objs.size := by
        rcases (by simpa using hb : b = e ∨ b = it) with z | z
        · rw [z]; exact ei
        · rw [z]; exact ii
      rw [upd_ne (Nat.ne_of_lt lb)]
      exact (hf b hb).1
  done := by
    intro X hP hw hK hc i pins s σ H E I hf st hg
    subst hP hw hK
    obtain ⟨⟨old, k1⟩, k2, k3⟩ := st
    obtain ⟨xs, hq, hx⟩ := hg
    obtain ⟨its, rv, p, hz⟩ := I.tuple hq
    obtain ⟨f0, f1, f2, f3, f4, f5⟩ := hf it (by simp)
    have hl := rv.length
    exact next_enum_tup_end (I.ok.hd hc) k1 k2 (show s.heap.IsTuple a its.toArray from p) (by simp; omega) fun h' eb => ⟨rfl, I.turned (t' := s.toks) (fun b o hb q => eb b o hb q) f0 f1 f3 f4 f5⟩
  self := fun A i s Q E st z => let ⟨⟨_, k1⟩, _⟩ := st; wpAny_pyIter_enum k1 z
def iEnumA (K : PySem.W.Frag) (ta : TA) : TI := fun σ H R => ta σ H fun vs H1 => ∃ a xs, vs = [.ref a] ∧ ((SqL K H1 a xs ∧ R (Ite K a) H1) ∨ (SqT K H1 a xs ∧ R (IteT K a) H1))
theorem pi_enumA {X : Cx} {e : Expr} {ta : TA} {p pos tpos : Pos} {elts : List Expr} {kk : Nat} (hg : Gl X "enumerate") (hm : X.mg "enumerate" = none) (ha : PA X [e] ta) (hs : starEach [e] X.env = [(false, eval e X.env)] := by rfl) :
    PI X (.Tuple elts kk tpos) (.Call (.Name "enumerate" p) [e] [] pos) (iEnumA X.K ta) := by
  refine ⟨fun pins s σ H R I z => ?_⟩
  refine Call_ (ld_blt I hg hm boot_enumerate (PyProof.Rows.callWith_type1 (thn (ha.run pos pins s σ H _ I z) fun us s1 ⟨vs, H1, I1, r1, q1⟩ => ?_) hs rfl))
  obtain ⟨a, xs, rfl, q⟩ := q1
  cases r1 with
  | cons r rr =>
    cases rr
    cases r
    have ap : ∀ b ∈ [s1.heap.objs.size + 1, s1.heap.objs.size], s1.heap.objs.size ≤ b := fun b hb => by
      rcases (by simpa using hb : b = s1.heap.objs.size + 1 ∨ b = s1.heap.objs.size) with z | z
      · rw [z]; exact Nat.le_add_right _ _
      · rw [z]; exact Nat.le_refl _
    rcases q with ⟨hq, q⟩ | ⟨hq, q⟩
    · obtain ⟨its, rv, p', hz⟩ := I1.list hq
      refine call_enumerate_list p'.isList fun h' k1 k2 k4 hk => wpAny_pyIter_enum k1 ?_
      exact ⟨s1.heap.objs.size + 1, [s1.heap.objs.size + 1, s1.heap.objs.size], _, _, H1, rfl, I1.kept (t' := s1.toks) hk, turn_enum a (s1.heap.objs.size + 1) s1.heap.objs.size, ⟨⟨.none, k1⟩, k2, Nat.succ_ne_self _⟩, fun b hb => I1.fpOk (ap b hb) (I1.hok.fresh (ap b hb)), q⟩
    · obtain ⟨its, rv, p', hz⟩ := I1.tuple hq
      refine call_enum_tup (show s1.heap.IsTuple a its.toArray from p') fun h' k1 k2 k4 hk => wpAny_pyIter_enum k1 ?_
      exact ⟨s1.heap.objs.size + 1, [s1.heap.objs.size + 1, s1.heap.objs.size], _, _, H1, rfl, I1.kept (t' := s1.toks) hk, turn_enumT a (s1.heap.objs.size + 1) s1.heap.objs.size, ⟨⟨.none, k1⟩, k2, Nat.succ_ne_self _⟩, fun b hb => I1.fpOk (ap b hb) (I1.hok.fresh (ap b hb)), q⟩
section
variable {Z : Ev} {m : List Addr} {h : Hs} {H : Hp}
theorem jr_enuT {a : Addr} {vs : List Val} {xs : List V} (hq : SqT Z.K H a xs) (rv : RVs Z.K m H vs xs) : JR Z m H (.vals (enumV 0 vs)) (IteT Z.K a) := by
  intro m' h' H' e r _ i
  have rv' := RVs.mono e _ _ rv
  refine ⟨fun w hv => ?_, fun hl => ⟨xs, e.sqT hq, by rw [← rv.len]; simpa [Src.items, enumV_len] using hl⟩⟩
  obtain ⟨v, hv, ew⟩ := enumV_get vs 0 i w hv
  obtain ⟨x, hx, rx⟩ := rv'.get hv
  refine ⟨⟨xs, x, e.sqT hq, hx⟩, fun y H'' q => ?_⟩
  obtain ⟨T, x', e1, hT, e2, q2⟩ := q
  subst e1 e2
  have := q2 xs (e.sqT hq)
  rw [hx] at this
  cases this
  have ex : Ext m' H' m' (upd H' T (.tup [.int (i : Nat), x])) := ext_new0 hT
  refine ⟨m', ex, r.lay hT, ?_⟩
  rw [ew]
  refine .tup (SqT.of upd_same) (.cons ?_ (.cons (RV.mono ex _ _ rx) .nil))
  rw [Nat.zero_add]
  exact .int _
end
end MP

set_option Elab.async false
set_option linter.all false
set_option maxRecDepth 100000
set_option maxHeartbeats 4000000
set_option autoImplicit false
/-! MPi: each form of expression, from its parts. -/
namespace MP
open PySem PySem.Spec L2
open PyProof.Rows hiding St

/-- what is wanted of an exception, from what a call's wish says -/
def exOf (Z : Ev) (E : XK) : WX := fun _ _ _ _ _ => False
/-- a def's promise, by values -/
def spF (Z : Ev) (np : Nat) (f : List Val → Hs → R Val) : Sp := fun vs H Q E => ∃ m h as, Rep Z m h H ∧ RVs Z.K m H as vs ∧ as.length = np ∧ PostG Z (exOf Z E) m H (f as h) (wV Z Q)
/-- the table's names mean what the module binds -/
structure Link (G : Tab) (ca : Nat → Addr) (CX : CXT) (n : Nat) (P : Program) (w : World) (K : PySem.W.Frag) (mg : Str → Option Value) (base : Heap) : Prop where
  nd : G.nm.Nodup
  free : ∀ x : Str, G.free.contains x = true → mg x = none
  glob : ∀ (i : Nat) (g : Str) (v : Val), G.globs[i]? = some (g, v) → ∃ x u, mg g = some u ∧ RelV x u ∧ (∀ m H, RV K m H v x) ∧ ∀ vs, v = .tup vs → ∃ a o, x = .ref a ∧ K.lookup a = some o ∧ o.cls = .type "tuple" ∧ o.dict = none
  fns : ∀ (f : Nat) (d : Fn), G.fns[f]? = some d → d.cls = none → ∃ fa fd, mg d.name = some (.ref fa) ∧ PySem.W.keepIn K (.ref fa) = true ∧ Binds K fd d.ps [] ∧
    FnOk P w K mg base CX (n + 1) fa fd d.ps (spF ⟨K, G.nm, ca⟩ d.ps.length (callN G n f))
  cls : ∀ (c : Nat) (d : Cl), G.cls[c]? = some d → mg d.name = some (.ref (ca c)) ∧ Cls K (ca c) ∧ (∀ (f : Nat) (g : Str), d.flds.contains f = true → G.nm[f]? = some g → NoAttr K (ca c) g) ∧
    (∀ (i : Nat), d.init = some i → ∃ fa fd di, G.fns[i]? = some di ∧ Mk K (ca c) fa ∧ Binds K fd di.ps [] ∧
      FnOk P w K mg base CX n fa fd di.ps (spF ⟨K, G.nm, ca⟩ di.ps.length ((callsN G n).i i))) ∧
    (∀ (m i : Nat) (g : Str), d.meths.lookup m = some i → G.nm[m]? = some g → ∃ fa fd di, G.fns[i]? = some di ∧ Meth K (ca c) g fa ∧ Binds K fd di.ps [] ∧
      FnOk P w K mg base CX (n + 1) fa fd di.ps (spF ⟨K, G.nm, ca⟩ di.ps.length (callN G n i)))
  nox : ∀ outer H s e s', CX outer H s (fun _ _ _ => False) e s' → False
structure Good (G : Tab) (ca : Nat → Addr) (CX : CXT) (E : XK) (n : Nat) (k : Sc) (X : Cx) : Prop where
  N : X.N = k.N
  nd : k.N.Nodup
  sc : X.env.scope = k.sc
  fn : ∀ x, k.fnb x = true → X.fn x = true
  calm : X.calm = true
  room : Room (n + 1) X.A
  lk : Link G ca CX n X.prog X.w X.K X.mg X.base
  pas : Passes CX X E
theorem Good.hu {G : Tab} {ca : Nat → Addr} {CX : CXT} {E : XK} {n : Nat} {k : Sc} {X : Cx} (g : Good G ca CX E n k X) : X.A.units + 65 < cLine := by
  have := g.room.un
  omega
theorem call_len {G : Tab} {n f : Nat} {d : Fn} {Z : Ev} {EX : WX} {m : List Addr} {H : Hp} {vs : List Val} {h : Hs} {W : WT Val} (e : G.fns[f]? = some d) (p : PostG Z EX m H (callN G n f vs h) W) : vs.length = d.ps.length := by
  cases n with
  | zero => exact False.elim p
  | succ n =>
    rw [callN_eq e, run] at p
    split at p
    · assumption
    · exact False.elim p
theorem calli_len {G : Tab} {n f : Nat} {d : Fn} {Z : Ev} {EX : WX} {m : List Addr} {H : Hp} {vs : List Val} {h : Hs} {W : WT Val} (e : G.fns[f]? = some d) (p : PostG Z EX m H ((callsN G n).i f vs h) W) : vs.length = d.ps.length := by
  cases n with
  | zero => exact False.elim p
  | succ n => exact call_len e p

section
variable {X : Cx} {nm : List Str} {ca : Nat → Addr} {EX : WX} {C : Calls}
theorem pt_plain {e : E} {py : Expr} (hp : PE X py (tE (zz X nm ca) EX C e)) (he : ∀ whole, isTrue py X.env whole = (do let v ← whole; standAt py.pos; holding [v] (truthy v)))
    (hq : ∀ st h, et C e st h = (ev C e st h).bind fun x h => ofO (truF h x) h) : PT X py (tT (zz X nm ca) EX C e) := by
  refine pt_w (pt_truth hp he) fun σ H Q q => ?_
  obtain ⟨m, st, h, rs, p⟩ := q
  rw [hq] at p
  refine stepE rs p fun m1 H1 x v h1 e1 rs1 v1 p1 => ?_
  cases q : truF h1 v with
  | none => rw [q] at p1; exact False.elim p1
  | some k => rw [q] at p1; exact ⟨k, tru_rv rs1.rep v1 q, PostG.at_ p1 rs1.rep⟩
theorem s_var {i : Nat} {x : Str} {pos : Pos} {k : Sc} (hN : X.N = k.N) (hs : X.env.scope = k.sc) (hi : k.N[i]? = some x) (hv : visB k x = true) : PE X (.Name x pos) (tE (zz X nm ca) EX C (.var i)) := by
  simp only [visB, Bool.and_eq_true, Bool.not_eq_true'] at hv
  refine pe_w (pe_var (by rw [hN]; exact hi) ?_ hv.1.2 hv.2) fun σ H Q q => ?_
  · have := hv.1.1
    show Vis _ x
    unfold Vis
    rw [hs]
    cases q : k.sc.names.lookup x with
    | none => rw [q] at this; cases this
    | some w => rw [q] at this; cases w <;> simp_all
  · obtain ⟨m, st, h, rs, p⟩ := q
    rw [ev] at p
    unfold varF at p
    split at p
    · rename_i v e
      obtain ⟨y, z1, z2⟩ := rs.sl i v e
      exact ⟨y, z1, p.at_ rs.rep y z2⟩
    · exact False.elim p
theorem s_const {e : E} {v : Val} {x : V} {py : Expr} (hp : PE X py (tC x)) (he : ∀ st h, ev C e st h = .ok v h) (hr : ∀ m H, RV X.K m H v x) : PE X py (tE (zz X nm ca) EX C e) := by
  refine pe_w hp fun σ H Q q => ?_
  obtain ⟨m, st, h, rs, p⟩ := q
  rw [he] at p
  exact p.at_ rs.rep x (hr _ _)
theorem s_bin {op : Operator} {a b : E} {x y : Expr} {pos : Pos} (ha : PE X x (tE (zz X nm ca) EX C a)) (hb : PE X y (tE (zz X nm ca) EX C b)) : PE X (.BinOp x op y pos) (tE (zz X nm ca) EX C (.bin op a b)) := by
  refine pe_w (pe_op (op_bin (nm := nm) (ca := ca) op) ha hb) fun σ H Q q => ?_
  obtain ⟨m, st, h, rs, p⟩ := q
  rw [ev] at p
  refine stepE rs p fun m1 H1 x va h1 e1 rs1 v1 p1 => ?_
  refine stepE rs1 p1 fun m2 H2 y vb h2 e2 rs2 v2 p2 => ?_
  exact ⟨m2, h2, va, vb, rs2.rep, RV.mono e2 _ _ v1, v2, Post.end_ (pure_binF _ _ _ _) p2⟩
theorem s_neg {a : E} {x : Expr} {pos : Pos} (ha : PE X x (tE (zz X nm ca) EX C a)) : PE X (.UnaryOp .USub x pos) (tE (zz X nm ca) EX C (.neg a)) := by
  refine pe_w (pe_un un_neg ha) fun σ H Q q => ?_
  obtain ⟨m, st, h, rs, p⟩ := q
  rw [ev] at p
  refine stepE rs p fun m1 H1 x va h1 e1 rs1 v1 p1 => ?_
  cases v1 with
  | int i => exact ⟨i, rfl, PostG.at_ p1 rs1.rep _ (.int _)⟩
  | _ => exact False.elim p1
theorem s_not {a : E} {x : Expr} {pos : Pos} (ha : PE X x (tE (zz X nm ca) EX C a)) : PE X (.UnaryOp .Not x pos) (tE (zz X nm ca) EX C (.not a)) := by
  refine pe_w (pe_notT ha) fun σ H Q q => ?_
  obtain ⟨m, st, h, rs, p⟩ := q
  rw [ev] at p
  refine stepE rs p fun m1 H1 x va h1 e1 rs1 v1 p1 => ?_
  obtain ⟨k, ek, p2⟩ := PostG.ofO p1
  exact ⟨k, tru_rv rs1.rep v1 ek, PostG.at_ p2 rs1.rep _ (.bl _)⟩
theorem st_not {a : E} {x : Expr} {pos : Pos} (ha : PT X x (tT (zz X nm ca) EX C a)) : PT X (.UnaryOp .Not x pos) (tT (zz X nm ca) EX C (.not a)) := by
  refine pt_w (pt_not ha) fun σ H Q q => ?_
  obtain ⟨m, st, h, rs, p⟩ := q
  rw [et_not] at p
  exact stepT rs p fun m1 H1 b h1 e1 rs1 p1 => PostG.at_ p1 rs1.rep
theorem s_cmp (hu : X.A.units + 65 < cLine) {op : CmpOp} {a b : E} {x y : Expr} {pos : Pos} (ha : PE X x (tE (zz X nm ca) EX C a)) (hb : PE X y (tE (zz X nm ca) EX C b)) (hm : notSet y = true) :
    PE X (.Compare x [op] [y] pos) (tE (zz X nm ca) EX C (.cmp op a b)) := by
  refine pe_w (pe_cmpR (op_cmpS (nm := nm) (ca := ca) hu op) ha hb (nomark_set hm)) fun σ H Q q => ?_
  obtain ⟨m, st, h, rs, p⟩ := q
  rw [ev] at p
  refine stepE rs p fun m1 H1 x va h1 e1 rs1 v1 p1 => ?_
  refine stepE rs1 p1 fun m2 H2 y vb h2 e2 rs2 v2 p2 => ?_
  exact ⟨m2, h2, va, vb, rs2.rep, RV.mono e2 _ _ v1, v2, Post.end_ (pure_cmpF _ _ _ _) p2⟩
theorem st_cmp (hu : X.A.units + 65 < cLine) {op : CmpOp} {a b : E} {x y : Expr} {pos : Pos} (ha : PE X x (tE (zz X nm ca) EX C a)) (hb : PE X y (tE (zz X nm ca) EX C b)) (hm : notSet y = true) :
    PT X (.Compare x [op] [y] pos) (tT (zz X nm ca) EX C (.cmp op a b)) := by
  refine pt_w (pt_cmpR (op_cmpS (nm := nm) (ca := ca) hu op) ha hb (nomark_set hm)) fun σ H Q q => ?_
  obtain ⟨m, st, h, rs, p⟩ := q
  rw [et_cmp] at p
  refine stepE rs p fun m1 H1 x va h1 e1 rs1 v1 p1 => ?_
  refine stepE rs1 p1 fun m2 H2 y vb h2 e2 rs2 v2 p2 => ?_
  refine ⟨m2, h2, va, vb, rs2.rep, RV.mono e2 _ _ v1, v2, Post.seq (pure_cmpF _ _ _ _) p2 fun m3 H3 z vz h3 _ e3 r3 v3 p3 => ?_⟩
  cases v3 with
  | bl k => exact ⟨k, rfl, PostG.at_ p3 r3⟩
  | _ => exact False.elim p3
theorem s_chain (hu : X.A.units + 65 < cLine) {op op2 : CmpOp} {a b c : E} {x y z : Expr} {pos : Pos} (ha : PE X x (tE (zz X nm ca) EX C a)) (hb : PE X y (tE (zz X nm ca) EX C b)) (hc : PE X z (tE (zz X nm ca) EX C c)) (hm : notSet z = true) :
    PE X (.Compare x [op, op2] [y, z] pos) (tE (zz X nm ca) EX C (.chain op op2 a b c)) := by
  refine pe_w (pe_chain (op_cmpS (nm := nm) (ca := ca) hu op) (op_cmpS (nm := nm) (ca := ca) hu op2) ha hb hc (lastm hm)) fun σ H Q q => ?_
  obtain ⟨m, st, h, rs, p⟩ := q
  rw [ev] at p
  refine stepE rs p fun m1 H1 x va h1 e1 rs1 v1 p1 => ?_
  refine stepE rs1 p1 fun m2 H2 y vb h2 e2 rs2 v2 p2 => ?_
  refine ⟨m2, h2, va, vb, rs2.rep, RV.mono e2 _ _ v1, v2, Post.seq (pure_cmpF _ _ _ _) p2 fun m3 H3 z vz h3 _ e3 r3 v3 p3 => ?_⟩
  cases v3 with
  | bl k =>
    refine ⟨k, rfl, ?_⟩
    cases k with
    | true =>
      rw [if_pos rfl]
      refine stepE (rs2.mono e3 r3) p3 fun m4 H4 w vw h4 e4 rs4 v4 p4 => ?_
      exact ⟨m4, h4, vb, vw, rs4.rep, RV.mono e4 _ _ (RV.mono e3 _ _ v2), v4, Post.end_ (pure_cmpF _ _ _ _) p4⟩
    | false =>
      rw [if_neg Bool.false_ne_true]
      exact PostG.at_ p3 r3 _ (.bl _)
  | _ => exact False.elim p3
theorem st_chain (hu : X.A.units + 65 < cLine) {op op2 : CmpOp} {a b c : E} {x y z : Expr} {pos : Pos} (ha : PE X x (tE (zz X nm ca) EX C a)) (hb : PE X y (tE (zz X nm ca) EX C b)) (hc : PE X z (tE (zz X nm ca) EX C c)) (hm : notSet z = true) :
    PT X (.Compare x [op, op2] [y, z] pos) (tT (zz X nm ca) EX C (.chain op op2 a b c)) := by
  refine pt_w (pt_chain (op_cmpS (nm := nm) (ca := ca) hu op) (op_cmpS (nm := nm) (ca := ca) hu op2) ha hb hc (lastm hm)) fun σ H Q q => ?_
  obtain ⟨m, st, h, rs, p⟩ := q
  rw [et_chain] at p
  refine stepE rs p fun m1 H1 x va h1 e1 rs1 v1 p1 => ?_
  refine stepE rs1 p1 fun m2 H2 y vb h2 e2 rs2 v2 p2 => ?_
  refine ⟨m2, h2, va, vb, rs2.rep, RV.mono e2 _ _ v1, v2, Post.seq (pure_cmpF _ _ _ _) p2 fun m3 H3 z vz h3 _ e3 r3 v3 p3 => ?_⟩
  cases v3 with
  | bl k =>
    refine ⟨k, rfl, ?_⟩
    cases k with
    | true =>
      rw [if_pos rfl]
      refine stepE (rs2.mono e3 r3) p3 fun m4 H4 w vw h4 e4 rs4 v4 p4 => ?_
      refine ⟨m4, h4, vb, vw, rs4.rep, RV.mono e4 _ _ (RV.mono e3 _ _ v2), v4, Post.seq (pure_cmpF _ _ _ _) p4 fun m5 H5 z5 vz5 h5 _ e5 r5 v5 p5 => ?_⟩
      cases v5 with
      | bl k => exact ⟨k, rfl, PostG.at_ p5 r5⟩
      | _ => exact False.elim p5
    | false =>
      rw [if_neg Bool.false_ne_true]
      exact ⟨false, rfl, PostG.at_ p3 r3⟩
  | _ => exact False.elim p3
/-- a op1 b op2 c op3 d -/
def tChain3 (r r' r'' : R2) (ta tb tc td : TE) : TE := fun σ H Q => ta σ H fun x H1 => tb σ H1 fun y H2 => r x y H2 fun z H3 => ∃ k, z = .bl k ∧
  (if k = true then tc σ H3 fun w H4 => r' y w H4 fun z2 H5 => ∃ k2, z2 = .bl k2 ∧ (if k2 = true then td σ H5 fun u H6 => r'' w u H6 Q else Q (.bl false) H5) else Q (.bl false) H3)
theorem pe_chain3 {X : Cx} {a b c d : Expr} {ta tb tc td : TE} {pos : Pos} {op op' op'' : CmpOp} {r r' r'' : R2} (ho : OpR X (compareOp op) r) (ho' : OpR X (compareOp op') r') (ho'' : OpR X (compareOp op'') r'') (ha : PE X a ta) (hb : PE X b tb) (hc : PE X c tc) (hd : PE X d td)
    (hm : lastMarks [op, op', op''] [b, c, d] = false) : PE X (.Compare a [op, op', op''] [b, c, d] pos) (tChain3 r r' r'' ta tb tc td) := by
  refine ⟨fun pins s σ H Q I h => ?_⟩
  refine Compare_chain (thn (ha.run pins s σ H _ I h) fun v s1 ⟨x, H1, I1, r1, q1⟩ => chain_link (thn (hb.run pins s1 σ H1 _ I1 q1) fun u s2 ⟨y, H2, I2, r2, q2⟩ =>
    thn (ho pins s2 σ H2 x y v u _ I2 r1 r2 q2) fun d s3 ⟨z, H3, I3, r3, k, e, q3⟩ => ?_)) hm
  subst e
  cases r3
  refine wpAny_truthy_bool ?_
  cases k with
  | false => exact ite_ff ⟨.bl false, H3, I3, rfl, q3⟩
  | true =>
    refine ite_tt (chain_link (thn (hc.run pins s3 σ H3 _ I3 q3) fun w' s4 ⟨z', H4, I4, r4, q4⟩ => thn (ho' pins s4 σ H4 y z' u w' _ I4 r2 r4 q4) fun d s5 ⟨z2, H5, I5, r5, k2, e2, q5⟩ => ?_))
    subst e2
    cases r5
    refine wpAny_truthy_bool ?_
    cases k2 with
    | false => exact ite_ff ⟨.bl false, H5, I5, rfl, q5⟩
    | true => exact ite_tt (chain_last (thn (hd.run pins s5 σ H5 _ I5 q5) fun w2 s6 ⟨z3, H6, I6, r6, q6⟩ => ho'' pins s6 σ H6 z' z3 w' w2 Q I6 r4 r6 q6))
theorem pt_chain3 {X : Cx} {a b c d : Expr} {ta tb tc td : TE} {pos : Pos} {op op' op'' : CmpOp} {r r' r'' : R2} (ho : OpR X (compareOp op) r) (ho' : OpR X (compareOp op') r') (ho'' : OpR X (compareOp op'') r'') (ha : PE X a ta) (hb : PE X b tb) (hc : PE X c tc) (hd : PE X d td)
    (hm : lastMarks [op, op', op''] [b, c, d] = false) : PT X (.Compare a [op, op', op''] [b, c, d] pos) (tTest (tChain3 r r' r'' ta tb tc td)) := by
  refine ⟨fun pins s σ H Q I h => ?_⟩
  refine isTrue_chain (thn (ha.run pins s σ H _ I h) fun v s1 ⟨x, H1, I1, r1, q1⟩ => test_link (thn (hb.run pins s1 σ H1 _ I1 q1) fun u s2 ⟨y, H2, I2, r2, q2⟩ =>
    thn (ho pins s2 σ H2 x y v u _ I2 r1 r2 q2) fun d s3 ⟨z, H3, I3, r3, k, e, q3⟩ => ?_)) hm
  subst e
  cases r3
  refine wpAny_truthy_bool ?_
  cases k with
  | false =>
    obtain ⟨k', e', q'⟩ := q3
    cases e'
    exact ite_ff ⟨H3, I3, q'⟩
  | true =>
    refine ite_tt (test_link (thn (hc.run pins s3 σ H3 _ I3 q3) fun w' s4 ⟨z', H4, I4, r4, q4⟩ => thn (ho' pins s4 σ H4 y z' u w' _ I4 r2 r4 q4) fun d s5 ⟨z2, H5, I5, r5, k2, e2, q5⟩ => ?_))
    subst e2
    cases r5
    refine wpAny_truthy_bool ?_
    cases k2 with
    | false =>
      obtain ⟨k', e', q'⟩ := q5
      cases e'
      exact ite_ff ⟨H5, I5, q'⟩
    | true =>
      refine ite_tt (test_last (thn (hd.run pins s5 σ H5 _ I5 q5) fun w2 s6 ⟨z3, H6, I6, r6, q6⟩ => thn (ho'' pins s6 σ H6 z' z3 w' w2 _ I6 r4 r6 q6) fun d' s7 ⟨z4, H7, I7, r7, k4, e4, q7⟩ => ?_))
      subst e4
      cases r7
      exact wpAny_truthy_bool ⟨H7, I7, q7⟩
theorem s_chain3 (hu : X.A.units + 65 < cLine) {op op2 op3 : CmpOp} {a b c d : E} {x y z w : Expr} {pos : Pos} (ha : PE X x (tE (zz X nm ca) EX C a)) (hb : PE X y (tE (zz X nm ca) EX C b)) (hc : PE X z (tE (zz X nm ca) EX C c)) (hd : PE X w (tE (zz X nm ca) EX C d)) (hm : notSet w = true) :
    PE X (.Compare x [op, op2, op3] [y, z, w] pos) (tE (zz X nm ca) EX C (.chain3 op op2 op3 a b c d)) := by
  refine pe_w (pe_chain3 (op_cmpS (nm := nm) (ca := ca) hu op) (op_cmpS (nm := nm) (ca := ca) hu op2) (op_cmpS (nm := nm) (ca := ca) hu op3) ha hb hc hd (nomark_set hm)) fun σ H Q q => ?_
  obtain ⟨m, st, h, rs, p⟩ := q
  rw [ev] at p
  refine stepE rs p fun m1 H1 x va h1 e1 rs1 v1 p1 => ?_
  refine stepE rs1 p1 fun m2 H2 y vb h2 e2 rs2 v2 p2 => ?_
  refine ⟨m2, h2, va, vb, rs2.rep, RV.mono e2 _ _ v1, v2, Post.seq (pure_cmpF _ _ _ _) p2 fun m3 H3 z vz h3 _ e3 r3 v3 p3 => ?_⟩
  cases v3 with
  | bl k =>
    refine ⟨k, rfl, ?_⟩
    cases k with
    | true =>
      rw [if_pos rfl]
      refine stepE (rs2.mono e3 r3) p3 fun m4 H4 w vw h4 e4 rs4 v4 p4 => ?_
      refine ⟨m4, h4, vb, vw, rs4.rep, RV.mono e4 _ _ (RV.mono e3 _ _ v2), v4, Post.seq (pure_cmpF _ _ _ _) p4 fun m5 H5 z vz h5 _ e5 r5 v5 p5 => ?_⟩
      cases v5 with
      | bl k =>
        refine ⟨k, rfl, ?_⟩
        cases k with
        | true =>
          rw [if_pos rfl]
          refine stepE (rs4.mono e5 r5) p5 fun m6 H6 u vu h6 e6 rs6 v6 p6 => ?_
          exact ⟨m6, h6, vw, vu, rs6.rep, RV.mono e6 _ _ (RV.mono e5 _ _ v4), v6, Post.end_ (pure_cmpF _ _ _ _) p6⟩
        | false =>
          rw [if_neg Bool.false_ne_true]
          exact PostG.at_ p5 r5 _ (.bl _)
      | _ => exact False.elim p5
    | false =>
      rw [if_neg Bool.false_ne_true]
      exact PostG.at_ p3 r3 _ (.bl _)
  | _ => exact False.elim p3
theorem st_chain3 (hu : X.A.units + 65 < cLine) {op op2 op3 : CmpOp} {a b c d : E} {x y z w : Expr} {pos : Pos} (ha : PE X x (tE (zz X nm ca) EX C a)) (hb : PE X y (tE (zz X nm ca) EX C b)) (hc : PE X z (tE (zz X nm ca) EX C c)) (hd : PE X w (tE (zz X nm ca) EX C d)) (hm : notSet w = true) :
    PT X (.Compare x [op, op2, op3] [y, z, w] pos) (tT (zz X nm ca) EX C (.chain3 op op2 op3 a b c d)) := by
  refine pt_w (pt_chain3 (op_cmpS (nm := nm) (ca := ca) hu op) (op_cmpS (nm := nm) (ca := ca) hu op2) (op_cmpS (nm := nm) (ca := ca) hu op3) ha hb hc hd (nomark_set hm)) fun σ H Q q => ?_
  obtain ⟨m, st, h, rs, p⟩ := q
  rw [et_chain3] at p
  refine stepE rs p fun m1 H1 x va h1 e1 rs1 v1 p1 => ?_
  refine stepE rs1 p1 fun m2 H2 y vb h2 e2 rs2 v2 p2 => ?_
  refine ⟨m2, h2, va, vb, rs2.rep, RV.mono e2 _ _ v1, v2, Post.seq (pure_cmpF _ _ _ _) p2 fun m3 H3 z vz h3 _ e3 r3 v3 p3 => ?_⟩
  cases v3 with
  | bl k =>
    refine ⟨k, rfl, ?_⟩
    cases k with
    | true =>
      rw [if_pos rfl]
      refine stepE (rs2.mono e3 r3) p3 fun m4 H4 w vw h4 e4 rs4 v4 p4 => ?_
      refine ⟨m4, h4, vb, vw, rs4.rep, RV.mono e4 _ _ (RV.mono e3 _ _ v2), v4, Post.seq (pure_cmpF _ _ _ _) p4 fun m5 H5 z vz h5 _ e5 r5 v5 p5 => ?_⟩
      cases v5 with
      | bl k =>
        refine ⟨k, rfl, ?_⟩
        cases k with
        | true =>
          rw [if_pos rfl]
          refine stepE (rs4.mono e5 r5) p5 fun m6 H6 u vu h6 e6 rs6 v6 p6 => ?_
          refine ⟨m6, h6, vw, vu, rs6.rep, RV.mono e6 _ _ (RV.mono e5 _ _ v4), v6, Post.seq (pure_cmpF _ _ _ _) p6 fun m7 H7 z vz h7 _ e7 r7 v7 p7 => ?_⟩
          cases v7 with
          | bl k => exact ⟨k, rfl, PostG.at_ p7 r7⟩
          | _ => exact False.elim p7
        | false =>
          rw [if_neg Bool.false_ne_true]
          exact ⟨false, rfl, PostG.at_ p5 r5⟩
      | _ => exact False.elim p5
    | false =>
      rw [if_neg Bool.false_ne_true]
      exact ⟨false, rfl, PostG.at_ p3 r3⟩
  | _ => exact False.elim p3
theorem s_and {a b : E} {x y : Expr} {r : List Expr} {pos : Pos} (ha : PE X x (tE (zz X nm ca) EX C a)) (hb : PE X (.BoolOp .And (y :: r) pos) (tE (zz X nm ca) EX C b)) : PE X (.BoolOp .And (x :: y :: r) pos) (tE (zz X nm ca) EX C (.and a b)) := by
  refine pe_w (pe_andT ha hb) fun σ H Q q => ?_
  obtain ⟨m, st, h, rs, p⟩ := q
  rw [ev] at p
  refine stepE rs p fun m1 H1 x va h1 e1 rs1 v1 p1 => ?_
  obtain ⟨k, ek, p2⟩ := PostG.ofO p1
  refine ⟨k, tru_rv rs1.rep v1 ek, ?_⟩
  cases k with
  | true => rw [if_pos rfl]; exact ⟨m1, st, h1, rs1, p2⟩
  | false => rw [if_neg Bool.false_ne_true]; exact p2.at_ rs1.rep _ v1
theorem s_or {a b : E} {x y : Expr} {r : List Expr} {pos : Pos} (ha : PE X x (tE (zz X nm ca) EX C a)) (hb : PE X (.BoolOp .Or (y :: r) pos) (tE (zz X nm ca) EX C b)) : PE X (.BoolOp .Or (x :: y :: r) pos) (tE (zz X nm ca) EX C (.or a b)) := by
  refine pe_w (pe_orT ha hb) fun σ H Q q => ?_
  obtain ⟨m, st, h, rs, p⟩ := q
  rw [ev] at p
  refine stepE rs p fun m1 H1 x va h1 e1 rs1 v1 p1 => ?_
  obtain ⟨k, ek, p2⟩ := PostG.ofO p1
  refine ⟨k, tru_rv rs1.rep v1 ek, ?_⟩
  cases k with
  | true => rw [if_pos rfl]; exact p2.at_ rs1.rep _ v1
  | false => rw [if_neg Bool.false_ne_true]; exact ⟨m1, st, h1, rs1, p2⟩
theorem st_and {a b : E} {x y : Expr} {r : List Expr} {pos : Pos} (ha : PT X x (tT (zz X nm ca) EX C a)) (hb : PW X (.BoolOp .And (y :: r) pos) (tT (zz X nm ca) EX C b)) : PW X (.BoolOp .And (x :: y :: r) pos) (tT (zz X nm ca) EX C (.and a b)) := by
  refine pw_w (pw_and ha hb) fun σ H Q q => ?_
  obtain ⟨m, st, h, rs, p⟩ := q
  rw [et_and] at p
  refine stepT rs p fun m1 H1 k h1 e1 rs1 p1 => ?_
  cases k with
  | true => rw [if_pos rfl]; exact ⟨m1, st, h1, rs1, p1⟩
  | false => rw [if_neg Bool.false_ne_true]; exact p1.at_ rs1.rep
theorem st_or {a b : E} {x y : Expr} {r : List Expr} {pos : Pos} (ha : PT X x (tT (zz X nm ca) EX C a)) (hb : PW X (.BoolOp .Or (y :: r) pos) (tT (zz X nm ca) EX C b)) : PW X (.BoolOp .Or (x :: y :: r) pos) (tT (zz X nm ca) EX C (.or a b)) := by
  refine pw_w (pw_or ha hb) fun σ H Q q => ?_
  obtain ⟨m, st, h, rs, p⟩ := q
  rw [et_or] at p
  refine stepT rs p fun m1 H1 k h1 e1 rs1 p1 => ?_
  cases k with
  | true => rw [if_pos rfl]; exact p1.at_ rs1.rep
  | false => rw [if_neg Bool.false_ne_true]; exact ⟨m1, st, h1, rs1, p1⟩
theorem s_ife {c a b : E} {z x y : Expr} {pos : Pos} (hc : PT X z (tT (zz X nm ca) EX C c)) (ha : PE X x (tE (zz X nm ca) EX C a)) (hb : PE X y (tE (zz X nm ca) EX C b)) : PE X (.IfExp z x y pos) (tE (zz X nm ca) EX C (.ife c a b)) := by
  refine pe_w (pe_ifExp hc ha hb) fun σ H Q q => ?_
  obtain ⟨m, st, h, rs, p⟩ := q
  rw [ev_ife] at p
  refine stepT rs p fun m1 H1 k h1 e1 rs1 p1 => ?_
  cases k with
  | true => rw [if_pos rfl]; exact ⟨m1, st, h1, rs1, p1⟩
  | false => rw [if_neg Bool.false_ne_true]; exact ⟨m1, st, h1, rs1, p1⟩
theorem st_ife {c a b : E} {z x y : Expr} {pos : Pos} (hc : PT X z (tT (zz X nm ca) EX C c)) (ha : PT X x (tT (zz X nm ca) EX C a)) (hb : PT X y (tT (zz X nm ca) EX C b)) : PT X (.IfExp z x y pos) (tT (zz X nm ca) EX C (.ife c a b)) := by
  refine pt_w (pt_ife hc ha hb) fun σ H Q q => ?_
  obtain ⟨m, st, h, rs, p⟩ := q
  rw [et_ife] at p
  refine stepT rs p fun m1 H1 k h1 e1 rs1 p1 => ?_
  cases k with
  | true => rw [if_pos rfl]; exact ⟨m1, st, h1, rs1, p1⟩
  | false => rw [if_neg Bool.false_ne_true]; exact ⟨m1, st, h1, rs1, p1⟩
/-! lists of expressions -/
theorem s_nil : PA X [] (tEs (zz X nm ca) EX C .nil) := by
  refine pa_w pa_nil fun σ H Q q => ?_
  obtain ⟨m, st, h, rs, p⟩ := q
  rw [evs] at p
  exact p.at_ rs.rep [] .nil
theorem s_cons {a : E} {es : Es} {x : Expr} {r : List Expr} (ha : PE X x (tE (zz X nm ca) EX C a)) (hr : PA X r (tEs (zz X nm ca) EX C es)) (hs : notStar x = true) : PA X (x :: r) (tEs (zz X nm ca) EX C (.cons a es)) := by
  refine pa_w (pa_cons ha hr (star_cons hs)) fun σ H Q q => ?_
  obtain ⟨m, st, h, rs, p⟩ := q
  rw [evs] at p
  refine stepE rs p fun m1 H1 x va h1 e1 rs1 v1 p1 => ?_
  refine stepEs rs1 p1 fun m2 H2 xs vs h2 e2 rs2 v2 p2 => ?_
  exact p2.at_ rs2.rep _ (.cons (RV.mono e2 _ _ v1) v2)
theorem s_tup {es : Es} {xs : List Expr} {k pos} (h : PA X xs (tEs (zz X nm ca) EX C es)) : PE X (.Tuple xs k pos) (tE (zz X nm ca) EX C (.tup es)) := by
  refine pe_w (pe_tup h) fun σ H Q q => ?_
  obtain ⟨m, st, h, rs, p⟩ := q
  rw [ev] at p
  refine stepEs rs p fun m1 H1 xs vs h1 e1 rs1 v1 p1 => ?_
  unfold tupF at p1
  split at p1
  · rename_i hl
    refine ⟨by rw [← v1.len, lim_eq]; exact hl, fun a ha => ?_⟩
    exact Post.tup (Post.end_ (pure_ok _ _) p1) rs1.rep ha v1
  · exact False.elim p1
theorem s_lst {es : Es} {xs : List Expr} {pos} (h : PA X xs (tEs (zz X nm ca) EX C es)) : PE X (.List xs pos) (tE (zz X nm ca) EX C (.lst es)) := by
  refine pe_w (pe_lst h) fun σ H Q q => ?_
  obtain ⟨m, st, h, rs, p⟩ := q
  rw [ev] at p
  refine stepEs rs p fun m1 H1 xs vs h1 e1 rs1 v1 p1 => ?_
  unfold lstF at p1
  split at p1
  · rename_i hl
    refine ⟨by rw [← v1.len, lim_eq]; exact hl, fun a ha => ?_⟩
    exact Post.lst (Post.end_ (pure_new _ _) p1) rs1.rep ha v1
  · exact False.elim p1
/-! subscripts -/
theorem s_ix (hu : X.A.units + 65 < cLine) {a b : E} {x y : Expr} {pos : Pos} (ha : PE X x (tE (zz X nm ca) EX C a)) (hb : PE X y (tE (zz X nm ca) EX C b)) (hs : notSlice y = true) : PE X (.Subscript x y pos) (tE (zz X nm ca) EX C (.ix a b)) := by
  refine pe_w (pe_ix (ix_S (nm := nm) (ca := ca) hu) ha hb (plainIx hs)) fun σ H Q q => ?_
  obtain ⟨m, st, h, rs, p⟩ := q
  rw [ev] at p
  refine stepE rs p fun m1 H1 x va h1 e1 rs1 v1 p1 => ?_
  refine stepE rs1 p1 fun m2 H2 y vb h2 e2 rs2 v2 p2 => ?_
  exact ⟨m2, h2, va, vb, rs2.rep, RV.mono e2 _ _ v1, v2, Post.end_ (pure_ixF _ _ _) p2⟩
theorem s_po_none : PO X none (tEo (zz X nm ca) EX C .none) := by
  refine po_w po_none fun σ H Q q => ?_
  obtain ⟨m, st, h, rs, p⟩ := q
  rw [evo] at p
  exact p.at_ rs.rep
theorem s_po_some {a : E} {x : Expr} (ha : PE X x (tE (zz X nm ca) EX C a)) : PO X (some x) (tEo (zz X nm ca) EX C (.some a)) := by
  refine po_w (po_some ha) fun σ H Q q => ?_
  obtain ⟨m, st, h, rs, p⟩ := q
  rw [evo] at p
  refine stepE rs p fun m1 H1 x va h1 e1 rs1 v1 p1 => ?_
  cases v1 with
  | int i => exact ⟨i, rfl, PostG.at_ p1 rs1.rep⟩
  | _ => exact False.elim p1
theorem s_sl {a : E} {lo hi : Eo} {x : Expr} {l u : Option Expr} {pos p2 : Pos} (ha : PE X x (tE (zz X nm ca) EX C a)) (hl : PO X l (tEo (zz X nm ca) EX C lo)) (hu : PO X u (tEo (zz X nm ca) EX C hi)) : PE X (.Subscript x (.Slice l u none p2) pos) (tE (zz X nm ca) EX C (.sl a lo hi)) := by
  refine pe_w (pe_slice (sl_S (nm := nm) (ca := ca)) ha hl hu) fun σ H Q q => ?_
  obtain ⟨m, st, h, rs, p⟩ := q
  rw [ev] at p
  refine stepE rs p fun m1 H1 x va h1 e1 rs1 v1 p1 => ?_
  refine stepEo rs1 p1 fun m2 H2 l h2 e2 rs2 p2 => ?_
  refine stepEo rs2 p2 fun m3 H3 u h3 e3 rs3 p3 => ?_
  exact ⟨m3, h3, va, rs3.rep, RV.mono e3 _ _ (RV.mono e2 _ _ v1), Post.end_ (pure_slF _ _ _ _) p3⟩
/-! fields -/
theorem s_fld {a : E} {f : Nat} {g : Str} {x : Expr} {pos : Pos} (hf : nm[f]? = some g) (ha : PE X x (tE (zz X nm ca) EX C a)) (hs : notSuper x = true) : PE X (.Attribute x g pos) (tE (zz X nm ca) EX C (.fld a f)) := by
  refine pe_w (pe_fld ha (abase hs)) fun σ H Q q => ?_
  obtain ⟨m, st, h, rs, p⟩ := q
  rw [ev] at p
  refine stepE rs p fun m1 H1 x va h1 e1 rs1 v1 p1 => ?_
  cases v1 with
  | @ref n a hn =>
    simp only [fldG, fldF] at p1
    split at p1
    · rename_i c fs hb
      obtain ⟨dx, fx, z1, z2, z3, z4⟩ := rs1.rep.ins hn hb
      cases q : fget fs f with
      | none => rw [q] at p1; exact False.elim p1
      | some w =>
        rw [q] at p1
        obtain ⟨y, l, ry⟩ := FR.get hf rs1.rep.nm z2 q
        have mem : ∀ {s : List (Str × V)} {y : V}, s.lookup g = some y → ∃ q ∈ s, q.1 = g := fun {s y} l => by
          induction s with
          | nil => cases l
          | cons q r ih =>
            rw [List.lookup_cons] at l
            split at l
            · rename_i e; exact ⟨q, List.mem_cons_self, (eq_of_beq e).symm⟩
            · obtain ⟨q', h1, h2⟩ := ih l; exact ⟨q', List.mem_cons_of_mem _ h1, h2⟩
        obtain ⟨q', hm, e⟩ := mem l
        have na := z4 q' hm
        rw [e] at na
        exact ⟨a, ca c, dx, fx, y, rfl, z1, z3, na, l, PostG.at_ p1 rs1.rep _ ry⟩
    · exact False.elim p1
  | _ => exact False.elim p1
end
end MP

set_option Elab.async false
set_option linter.all false
set_option maxRecDepth 100000
set_option maxHeartbeats 4000000
set_option autoImplicit false
/-! MPj: calls, displays of dicts, comprehensions. -/
namespace MP
open PySem PySem.Spec L2
open PyProof.Rows hiding St

theorem glB_gl {X : Cx} {k : Sc} {x : Str} (hs : X.env.scope = k.sc) (h : glB k x = true) : Gl X x ∧ (x == ("__debug__" : Str)) = false := by
  simp only [glB, Bool.and_eq_true, decide_eq_true_eq, Bool.not_eq_true'] at h
  refine ⟨?_, h.2⟩
  show X.env.scope.names.lookup x = _
  rw [hs]
  exact h.1
theorem exOf_noE {Z : Ev} {EK : XK} : exOf Z EK = noE := rfl
section
variable {X : Cx} {G : Tab} {ca : Nat → Addr} {CX : CXT} {EK : XK} {n : Nat} {k : Sc}
theorem s_glob {EX : WX} {C : Calls} {i : Nat} {v : Val} {x : Str} {pos : Pos} (g : Good G ca CX EK n k X) (hC : C.glob = fun k => (G.globs[k]?).map (·.2)) (hi : (G.globs[i]?).map (·.1) = some x) (hg : glB k x = true) :
    PE X (.Name x pos) (tE (zz X G.nm ca) EX C (.glob i)) := by
  cases q : G.globs[i]? with
  | none => rw [q] at hi; cases hi
  | some gv =>
    obtain ⟨y, w⟩ := gv
    rw [q] at hi
    cases hi
    obtain ⟨x', u, h1, h2, h3, _⟩ := g.lk.glob i _ _ q
    obtain ⟨g1, g2⟩ := glB_gl g.sc hg
    exact s_const (v := w) (x := x') (pe_glob g1 h1 h2 g2) (fun st h => by rw [ev, hC]; show ofO ((G.globs[i]?).map (·.2)) h = _; rw [q]; rfl) h3
theorem bi_ok {x : Str} (g : Good G ca CX EK n k X) (h : biB G k x = true) : Gl X x ∧ (x == ("__debug__" : Str)) = false ∧ X.mg x = none := by
  simp only [biB, Bool.and_eq_true] at h
  obtain ⟨h1, h2⟩ := glB_gl g.sc h.1
  exact ⟨h1, h2, g.lk.free x h.2⟩
theorem nil_es {Z : Ev} {EX : WX} {C : Calls} {σ : St} {H : Hp} {Q : List V → Hp → Prop} (h : tEs Z EX C .nil σ H Q) : tNil σ H Q := by
  obtain ⟨m, st, h, rs, p⟩ := h
  rw [evs] at p
  exact p.at_ rs.rep [] .nil
/-- f(..) -/
theorem s_call {es : Es} {f : Nat} {d : Fn} {x : Str} {p pos : Pos} {xs : List Expr} (g : Good G ca CX EK n k X) (hf : G.fns[f]? = some d) (hc : d.cls = none) (hx : d.name = x) (hg : glB k x = true)
    (ha : PA X xs (tEs (zz X G.nm ca) (exOf (zz X G.nm ca) EK) (callsN G n) es)) (hs : xs.all notStar = true) (h0 : xs = [] → es = .nil) : PE X (.Call (.Name x p) xs [] pos) (tE (zz X G.nm ca) (exOf (zz X G.nm ca) EK) (callsN G n) (.call f es)) := by
  subst hx
  obtain ⟨fa, fd, h1, h2, h3, h4⟩ := g.lk.fns f d hf hc
  obtain ⟨g1, g2⟩ := glB_gl g.sc hg
  have go : ∀ σ H Q, tE (zz X G.nm ca) (exOf (zz X G.nm ca) EK) (callsN G n) (.call f es) σ H Q → tCall (spF (zz X G.nm ca) d.ps.length (callN G n f)) [] EK (tEs (zz X G.nm ca) (exOf (zz X G.nm ca) EK) (callsN G n) es) σ H Q := fun σ H Q q => by
    obtain ⟨m, st, h, rs, p⟩ := q
    rw [ev] at p
    refine stepEs rs p fun m1 H1 xs vs h1 e1 rs1 v1 p1 => ?_
    rw [List.append_nil]
    exact ⟨m1, h1, vs, rs1.rep, v1, call_len hf p1, p1⟩
  cases xs with
  | nil =>
    obtain rfl := h0 rfl
    exact pe_w (pe_call0 h4 g.room g1 h1 h2 h3 .nil g.pas g2) fun σ H Q q => nil_es (go σ H Q q)
  | cons y ys =>
    rw [List.all_cons, Bool.and_eq_true] at hs
    exact pe_w (pe_call h4 g.room g1 h1 h2 h3 .nil g.pas ha g2 (star_cons hs.1) (star_any hs.2)) go
/-- C(..) -/
theorem s_new {es : Es} {c : Nat} {d : Cl} {x : Str} {p pos : Pos} {xs : List Expr} (g : Good G ca CX EK n k X) (hf : G.cls[c]? = some d) (hini : d.init.isSome = true) (hx : d.name = x) (hg : glB k x = true)
    (ha : PA X xs (tEs (zz X G.nm ca) (exOf (zz X G.nm ca) EK) (callsN G n) es)) (hs : xs.all notStar = true) (h0 : xs = [] → es = .nil) : PE X (.Call (.Name x p) xs [] pos) (tE (zz X G.nm ca) (exOf (zz X G.nm ca) EK) (callsN G n) (.new c es)) := by
  subst hx
  obtain ⟨h1, h2, h3, h4, h5⟩ := g.lk.cls c d hf
  obtain ⟨g1, g2⟩ := glB_gl g.sc hg
  have hi : (callsN G n).init c = d.init := by
    show (G.cls[c]?).bind (·.init) = _
    rw [hf]
    rfl
  obtain ⟨i, q⟩ := Option.isSome_iff_exists.mp hini
  obtain ⟨fa, fd, di, z1, z2, z3, F⟩ := h4 i q
  have go : ∀ σ H Q, tE (zz X G.nm ca) (exOf (zz X G.nm ca) EK) (callsN G n) (.new c es) σ H Q → tMake (ca c) (spF (zz X G.nm ca) di.ps.length ((callsN G n).i i)) [] EK (tEs (zz X G.nm ca) (exOf (zz X G.nm ca) EK) (callsN G n) es) σ H Q := fun σ H Q q2 => by
    obtain ⟨m, st, h, rs, p⟩ := q2
    rw [ev] at p
    refine stepEs rs p fun m1 H1 xs vs h1 e1 rs1 v1 p1 => ?_
    intro a dx ha hdx hne
    rw [List.append_nil]
    have hu : (upd H1 dx (.own a)) a = none := by rw [upd_ne (Ne.symm hne)]; exact ha
    have ex1 : Ext m1 H1 m1 (upd H1 dx (.own a)) := ext_new0 hdx
    have ex2 : Ext m1 (upd H1 dx (.own a)) (m1 ++ [a]) (upd (upd H1 dx (.own a)) a (.ins (ca c) dx [])) := ext_new hu
    have r1 : Rep (zz X G.nm ca) m1 h1 (upd H1 dx (.own a)) := rs1.rep.lay hdx
    have r2 : Rep (zz X G.nm ca) (m1 ++ [a]) (h1 ++ [.ins c []]) (upd (upd H1 dx (.own a)) a (.ins (ca c) dx [])) := r1.new hu ⟨dx, [], upd_same, .nil, h2, fun _ hq => by cases hq⟩
    have ea : (m1 ++ [a])[h1.length]? = some a := by rw [← rs1.rep.len]; simp
    have p2 := p1.mono (ex1.trans ex2)
    have p3 : PostG (zz X G.nm ca) (exOf (zz X G.nm ca) EK) (m1 ++ [a]) (upd (upd H1 dx (.own a)) a (.ins (ca c) dx [])) ((callsN G n).i i (.ref h1.length :: vs) (h1 ++ [.ins c []])) (wV (zz X G.nm ca) fun v H2 => v = .non ∧ Q (.ref a) H2) := by
      unfold newF at p2
      rw [hi, q] at p2
      dsimp only at p2
      cases r : (callsN G n).i i (.ref h1.length :: vs) (h1 ++ [.ins c []]) with
      | exc _ _ _ => rw [r] at p2; exact p2
      | stk => rw [r] at p2; exact p2
      | ok v h3 =>
        rw [r] at p2
        intro m' H' e r' x rv
        cases rv with
        | non => exact ⟨rfl, p2 m' H' e r' _ (.ref (e.pre _ _ ea))⟩
        | _ => exact False.elim (p2 : False)
    exact ⟨_, _, .ref h1.length :: vs, r2, .cons (.ref ea) (RVs.mono (ex1.trans ex2) _ _ v1), calli_len z1 p3, p3⟩
  cases xs with
  | nil =>
    obtain rfl := h0 rfl
    exact pe_w (pe_make0 z2 F g.room g1 h1 z3 .nil g.pas g2) fun σ H Q q => nil_es (go σ H Q q)
  | cons y ys =>
    rw [List.all_cons, Bool.and_eq_true] at hs
    exact pe_w (pe_make z2 F g.room g1 h1 z3 .nil g.pas ha g2 (star_cons hs.1) (star_any hs.2)) go
theorem few_form {env : Env} {pos : Pos} {xs : List Expr} (h : xs.all notStar = true) (hl : xs.length < 29) : methodCallForm (xs.length + ([] : List Keyword).length) (backTo pos (starEach xs env)) (backToKw pos (keywordEach [] env)) = true := few_ok h hl
/-- o.m(..) of an instance -/
theorem s_meth {o : E} {es : Es} {f : Nat} {nmf : Str} {y : Expr} {ap pos : Pos} {xs : List Expr} (g : Good G ca CX EK n k X) (hf : G.nm[f]? = some nmf) (ho : PE X y (tE (zz X G.nm ca) (exOf (zz X G.nm ca) EK) (callsN G n) o))
    (ha : PA X xs (tEs (zz X G.nm ca) (exOf (zz X G.nm ca) EK) (callsN G n) es)) (hs : xs.all notStar = true) (h0 : xs = [] → es = .nil) (hy : notSuper y = true) (hl : (ap.endLine == pos.line) = true) (hx : xs.length < 29) :
    PE X (.Call (.Attribute y nmf ap) xs [] pos) (tE (zz X G.nm ca) (exOf (zz X G.nm ca) EK) (callsN G n) (.meth o f es)) := by
  have ht : eval (.Call (.Attribute y nmf ap) xs [] pos) X.env = (do
      let ov ← eval y X.env
      standAt ap.atName
      let (f, first) ← holding [ov] (getMethod ov nmf (plainOf y X.env))
      callWith pos f first (backTo pos (starEach xs X.env)) (backToKw pos (keywordEach [] X.env))) := mcall_of (abase hy) fun ov => mcall_line (few_form hs hx) hl
  refine pe_any fun σ H Q q => ?_
  obtain ⟨m, st, h, rs, p⟩ := q
  rw [ev] at p
  -- which class
  have key : ∀ n' hh, ev (callsN G n) o st h = .ok (.ref n') hh → ∀ c fs, hh[n']? = some (.ins c fs) → ∀ i, (callsN G n).meth c f = some i → ∃ t', PE X (.Call (.Attribute y nmf ap) xs [] pos) t' ∧ t' σ H Q := fun n' hh e1 c fs e2 i e3 => by
    have e3' : (G.cls[c]?).bind (fun k => k.meths.lookup f) = some i := e3
    cases qc : G.cls[c]? with
    | none => rw [qc] at e3'; cases e3'
    | some d =>
      rw [qc] at e3'
      have e4 : d.meths.lookup f = some i := e3'
      obtain ⟨h1, h2, h3, h4, h5⟩ := g.lk.cls c d qc
      obtain ⟨fa, fd, di, z1, z2, z3, F⟩ := h5 f i nmf e4 hf
      have go : tMeth (ca c) nmf (spF (zz X G.nm ca) di.ps.length (callN G n i)) [] EK (tE (zz X G.nm ca) (exOf (zz X G.nm ca) EK) (callsN G n) o) (tEs (zz X G.nm ca) (exOf (zz X G.nm ca) EK) (callsN G n) es) σ H Q := by
        rw [e1] at p
        refine ⟨m, st, h, rs, ?_⟩
        rw [e1]
        intro m1 H1 ex1 r1 x rv
        have p1 := PostG.mono p ex1
        cases rv with
        | @ref _ a hn =>
          obtain ⟨dx, fx, w1, w2, w3, w4⟩ := r1.ins hn e2
          rw [R.bind_ok] at p1
          unfold methF at p1
          dsimp only at p1
          rw [e2] at p1
          dsimp only at p1
          rw [e3] at p1
          dsimp only at p1
          split at p1
          · rename_i hnone
            have hfg : fget fs f = none := by simpa using hnone
            refine ⟨a, dx, fx, rfl, w1, FR.none hf r1.nm w2 hfg, ?_⟩
            refine stepEs (rs.mono ex1 r1) p1 fun m2 H2 zs vs h2' e2' rs2 v2 p2 => ?_
            rw [List.append_nil]
            exact ⟨m2, h2', .ref n' :: vs, rs2.rep, .cons (.ref (e2'.pre _ _ hn)) v2, call_len z1 p2, p2⟩
          · exact False.elim p1
      cases xs with
      | nil =>
        obtain rfl := h0 rfl
        refine ⟨_, pe_meth0 (pl := plainOf y X.env) ho h2 z2 F g.room z3 .nil g.pas ht, ?_⟩
        obtain ⟨m9, st9, h9, rs9, p9⟩ := go
        refine ⟨m9, st9, h9, rs9, ?_⟩
        cases r9 : ev (callsN G n) o st9 h9 with
        | ok v1 h1' =>
          rw [r9] at p9
          intro m' H' e' r' x' rv'
          obtain ⟨a', dx', fs', y1, y2, y3, y4⟩ := p9 m' H' e' r' x' rv'
          exact ⟨a', dx', fs', y1, y2, y3, nil_es y4⟩
        | exc _ _ _ => rw [r9] at p9; exact p9
        | stk => rw [r9] at p9; exact p9
      | cons z zs =>
        rw [List.all_cons, Bool.and_eq_true] at hs
        exact ⟨_, pe_meth (pl := plainOf y X.env) ho h2 z2 F g.room z3 .nil g.pas ha (star_cons hs.1) (star_any hs.2) ht, go⟩
  cases r : ev (callsN G n) o st h with
  | stk => rw [r] at p; exact False.elim p
  | exc c0 vs0 h0' =>
    refine ⟨fun σ H Q => tE (zz X G.nm ca) (exOf (zz X G.nm ca) EK) (callsN G n) o σ H fun _ _ => False, ⟨fun pins s σ H Q I q => ?_⟩, m, st, h, rs, ?_⟩
    · rw [ht]
      refine wpAny_bind (thn (ho.run pins s σ H _ I q) fun v s1 q1 => ?_)
      obtain ⟨_, _, _, _, f⟩ := q1
      exact False.elim f
    · rw [r] at p ⊢
      exact p
  | ok v hh =>
    rw [r] at p
    have p1 := p
    rw [R.bind_ok] at p1
    cases v with
    | ref n' =>
      unfold methF at p1
      dsimp only at p1
      split at p1
      · rename_i c fs e2
        split at p1
        · rename_i i e3
          exact key n' hh r c fs e2 i e3
        · exact False.elim p1
      · exact False.elim p1
    | _ => exact False.elim p1
end
end MP

set_option Elab.async false
set_option linter.all false
set_option maxRecDepth 100000
set_option maxHeartbeats 4000000
set_option autoImplicit false
/-! MPk: built-ins, displays of dicts, what is walked, comprehensions. -/
namespace MP
open PySem PySem.Spec L2
open PyProof.Rows hiding St

theorem prim_boot (p : Prim) : bootBuiltins (primN p) = some (primV p) := by cases p <;> decide +kernel
theorem prim_name (p : Prim) : primN p ≠ "__name__" := by cases p <;> decide
section
variable {X : Cx} {G : Tab} {ca : Nat → Addr} {CX : CXT} {EK : XK} {n : Nat} {k : Sc} {EX : WX} {C : Calls}
theorem s_prim {es : Es} {p : Prim} {x : Str} {pp pos : Pos} {y : Expr} {ys : List Expr} (g : Good G ca CX EK n k X) (hx : x = primN p) (hg : biB G k x = true)
    (ha : PA X (y :: ys) (tEs (zz X G.nm ca) EX C es)) (hs : (y :: ys).all notStar = true) : PE X (.Call (.Name x pp) (y :: ys) [] pos) (tE (zz X G.nm ca) EX C (.prim p es)) := by
  obtain ⟨g1, g2, g3⟩ := bi_ok g hg
  rw [List.all_cons, Bool.and_eq_true] at hs
  have hp := prim_S (nm := G.nm) (ca := ca) g.calm p
  have go : ∀ σ H Q, tE (zz X G.nm ca) EX C (.prim p es) σ H Q → tCB (rPrim (zz X G.nm ca) p) (tEs (zz X G.nm ca) EX C es) σ H Q := fun σ H Q q => by
    obtain ⟨m, st, h, rs, p⟩ := q
    rw [ev] at p
    refine stepEs rs p fun m1 H1 xs vs h1 e1 rs1 v1 p1 => ?_
    exact ⟨m1, h1, vs, rs1.rep, v1, Post.end_ (pure_primF _ _ _) p1⟩
  have hb : bootBuiltins x = some (primV p) := by rw [hx]; exact prim_boot p
  have hn : x ≠ "__name__" := by rw [hx]; exact prim_name p
  cases p <;> first
    | exact pe_w (pe_callB hp g1 g3 hb ha hn g2 (star_cons hs.1) (star_any hs.2)) go
    | exact pe_w (pe_callTy hp g1 g3 hb ha hn g2 (star_cons hs.1) (star_any hs.2)) go
theorem s_pm {o : E} {es : Es} {p : PM} {x : Str} {ap pos : Pos} {y : Expr} {xs : List Expr} (hu : X.A.units + 65 < cLine) (hx : x = pmN p) (ho : PE X y (tE (zz X G.nm ca) EX C o))
    (ha : PA X xs (tEs (zz X G.nm ca) EX C es)) (hs : xs.all notStar = true) (h0 : xs = [] → es = .nil) (hy : notSuper y = true) (hl : (ap.endLine == pos.line) = true) (hxs : xs.length < 29) :
    PE X (.Call (.Attribute y x ap) xs [] pos) (tE (zz X G.nm ca) EX C (.pm p o es)) := by
  subst hx
  have go : ∀ σ H Q, tE (zz X G.nm ca) EX C (.pm p o es) σ H Q → tBM X.K (pmT p) (rPM (zz X G.nm ca) p) (tE (zz X G.nm ca) EX C o) (tEs (zz X G.nm ca) EX C es) σ H Q := fun σ H Q q => by
    obtain ⟨m, st, h, rs, p⟩ := q
    rw [ev] at p
    refine stepE rs p fun m1 H1 x v h1 e1 rs1 v1 p1 => ?_
    unfold pmG at p1
    split at p1
    · rename_i ty
      refine ⟨tyOk rs1.rep v1 ty, ?_⟩
      refine stepEs rs1 p1 fun m2 H2 xs vs h2 e2 rs2 v2 p2 => ?_
      exact ⟨m2, h2, v, vs, rs2.rep, RV.mono e2 _ _ v1, v2, Post.end_ (pure_pmF _ _ _ _) p2⟩
    · exact False.elim p1
  cases xs with
  | nil =>
    obtain rfl := h0 rfl
    refine pe_w (pe_bm0 (pm_pa p) (pm_slot p) (pm_ty p) (pm_S (nm := G.nm) (ca := ca) hu p) ho (abase hy) hl) fun σ H Q q => ?_
    obtain ⟨m, st, h, rs, p⟩ := go σ H Q q
    refine ⟨m, st, h, rs, ?_⟩
    cases r : ev C o st h with
    | ok v h1 =>
      rw [r] at p
      intro m' H' e' r' x rv
      obtain ⟨t1, t2⟩ := p m' H' e' r' x rv
      exact ⟨t1, nil_es t2⟩
    | exc _ _ _ => rw [r] at p; exact p
    | stk => rw [r] at p; exact p
  | cons z zs =>
    have hs' := hs
    rw [List.all_cons, Bool.and_eq_true] at hs
    exact pe_w (pe_bm (pm_pa p) (pm_slot p) (pm_ty p) (pm_S (nm := G.nm) (ca := ca) hu p) ho ha (abase hy) (few_ok hs' hxs) hl (star_cons hs.1) (star_any hs.2)) go
theorem mt_tup_index_i : MtR X "tuple.index" (fun x xs H Q => ∃ p, ∃ ns : List Int, ∃ k, x = .ref p ∧ xs = [.int k] ∧ SqT X.K H p (ns.map V.int) ∧ k ∈ ns ∧ Q (.int (ns.idxOf k : Nat)) H) := by
  intro pins s σ H x xs v us Q I rx rs h
  obtain ⟨p, ns, k, rfl, rfl, hq, hk, q⟩ := h
  cases rx
  obtain ⟨u, rfl, t, rfl⟩ := vals1 rs
  obtain ⟨its, r, pl, hz⟩ := I.tuple hq
  obtain ⟨⟨cls, dd, dt, sl⟩, ho, hc, n, hd⟩ := pl
  simp only at hc hd
  subst hc
  subst hd
  exact PySem.SeqAt.tuple_index_ints ⟨_, ho, rfl, _, rfl⟩ (intsAre_of r) hk ⟨.int (ns.idxOf k : Nat), H, I.tok _, ⟨_, rfl⟩, q⟩
/-- a tuple of texts of the module -/
theorem s_gix {e : E} {i : Nat} {x : Str} {pp ap pos : Pos} {y : Expr} (g : Good G ca CX EK n k X) (hC : C.glob = fun k => (G.globs[k]?).map (·.2)) (hi : (G.globs[i]?).map (·.1) = some x) (htu : (match G.globs[i]? with | some (_, .tup _) => true | _ => false) = true) (hg : glB k x = true)
    (he : PE X y (tE (zz X G.nm ca) EX C e)) (hs : notStar y = true) (hl : (ap.endLine == pos.line) = true) : PE X (.Call (.Attribute (.Name x pp) ("index" : Str) ap) [y] [] pos) (tE (zz X G.nm ca) EX C (.gix i e)) := by
  cases q : G.globs[i]? with
  | none => rw [q] at hi; cases hi
  | some gv =>
    obtain ⟨w0, w⟩ := gv
    rw [q] at hi
    cases hi
    obtain ⟨x', u, h1, h2, h3, h4⟩ := g.lk.glob i _ _ q
    obtain ⟨g1, g2⟩ := glB_gl g.sc hg
    have hs' : [y].all notStar = true := by rw [List.all_cons, hs]; rfl
    have hpa : PA X [y] (tCons (tE (zz X G.nm ca) EX C e) tNil) := pa_cons he pa_nil (star_cons hs)
    refine pe_w (pe_bm PySem.F.plainAttrs_tuple PySem.F.slot_tuple_index PySem.F.type_tuple_index (mt_tup_index.or mt_tup_index_i) (pe_glob g1 h1 h2 g2) hpa rfl (few_ok hs' (by rw [List.length_singleton]; omega)) hl (star_cons hs) (star_any (xs := []) rfl)) fun σ H Q q2 => ?_
    obtain ⟨m, st, h, rs, p⟩ := q2
    have hgl : C.glob i = some w := by rw [hC]; show (G.globs[i]?).map (·.2) = _; rw [q]; rfl
    rw [ev] at p
    have rv := h3 m H
    have main : ∀ a xs vs, x' = V.ref a → w = .tup vs → SqT X.K (fun _ => none) a xs → RVs X.K [] (fun _ => none) vs xs → tBM X.K "tuple" (fun x xs H Q => (∃ p, ∃ ys : List Str, ∃ z j, x = .ref p ∧ xs = [.str z] ∧ SqT X.K H p (ys.map V.str) ∧ ys[j]? = some z ∧ (∀ m, m < j → ys[m]? ≠ some z) ∧ Q (.int (j : Nat)) H) ∨ ∃ p, ∃ ns : List Int, ∃ k, x = .ref p ∧ xs = [.int k] ∧ SqT X.K H p (ns.map V.int) ∧ k ∈ ns ∧ Q (.int (ns.idxOf k : Nat)) H) (tC x') (tCons (tE (zz X G.nm ca) EX C e) tNil) σ H Q := fun a xs vs ex ew hq rvs => by
      subst ex ew
      have hqK : ∀ H', SqT X.K H' a xs := fun H' => by
        rcases hq with (hq | ⟨o, hq⟩) | hq
        · cases hq
        · cases hq
        · exact .inr hq
      refine ⟨.inr (.inl ⟨rfl, ?_⟩), ?_⟩
      · obtain ⟨a', o, y1, y2, y3, y4⟩ := h4 _ rfl
        cases y1
        exact ⟨o, y2, y3, y4⟩
      · refine stepE rs p fun m1 H1 x1 v h1' e1 rs1 v1 p1 => ?_
        unfold gixG at p1
        rw [hgl] at p1
        dsimp only at p1
        cases v1 with
        | str s =>
          simp only [gixF] at p1
          split at p1
          · rename_i ts ets
            split at p1
            · rename_i j ej
              have ex := rvs.strs ets
              rw [List.findIdx?_eq_some_iff_getElem] at ej
              obtain ⟨hj, hj1, hj2⟩ := ej
              refine .inl ⟨a, ts.map mk, mk s, j, rfl, rfl, by rw [← ex]; exact hqK H1, ?_, fun m' hm' => ?_, PostG.at_ p1 rs1.rep _ (.int _)⟩
              · have e : ts[j] = s := of_decide_eq_true hj1
                rw [List.getElem?_map, List.getElem?_eq_getElem hj, e]
                rfl
              · have hlt : m' < ts.length := by omega
                have ne := hj2 m' hm'
                rw [List.getElem?_map, List.getElem?_eq_getElem hlt]
                intro z
                apply ne
                have z' : mk ts[m'] = mk s := Option.some.inj z
                exact decide_eq_true (mk_inj.mp z')
            · exact False.elim p1
          · exact False.elim p1
        | int i =>
          simp only [gixF] at p1
          split at p1
          · rename_i ns ens
            split at p1
            · rename_i hi
              have ex := rvs.ints ens
              exact .inr ⟨a, ns, i, rfl, rfl, by rw [← ex]; exact hqK H1, hi, PostG.at_ p1 rs1.rep _ (.int _)⟩
            · exact False.elim p1
          · exact False.elim p1
        | _ => exact False.elim p1
    have rv0 := h3 [] (fun _ => none)
    cases rv0 with
    | tup a b => exact main _ _ _ rfl rfl a b
    | _ => rw [q] at htu; exact Bool.noConfusion htu
def tyS : Ty → String
  | .bool => "bool" | .int => "int" | .str => "str" | .list => "list" | .tuple => "tuple"
theorem ty_boot (t : Ty) : bootBuiltins (tyN t) = some (.type (tyS t)) := by cases t <;> decide +kernel
theorem ty_name (t : Ty) : tyN t ≠ "__name__" := by cases t <;> decide
theorem isi_boot : bootBuiltins "isinstance" = some (.builtin "isinstance") := by decide +kernel
theorem isi_ok {Z : Ev} {m : List Addr} {h : Hs} {H : Hp} {v : Val} {x : V} {t : Ty} {b : Bool} (r : Rep Z m h H) (rv : RV Z.K m H v x) (e : isiF v t h = some b) : ∃ u, TyX Z.K H x u ∧ PySem.W.kitOne Z.K u (.type (tyS t)) = some b := by
  cases rv with
  | non => cases e; exact ⟨_, .base .non, kit_ty (by cases t <;> decide +kernel)⟩
  | bl c => cases e; exact ⟨_, .base (.bl c), kit_ty (by cases t <;> decide +kernel)⟩
  | int c => cases e; exact ⟨_, .base (.int c), kit_ty (by cases t <;> decide +kernel)⟩
  | str c => cases e; exact ⟨_, .base (.str _), kit_ty (by cases t <;> decide +kernel)⟩
  | tup h1 h2 =>
    cases e
    refine ⟨.type "tuple", ?_, kit_ty (by cases t <;> decide +kernel)⟩
    rcases h1 with (h1 | ⟨o, h1⟩) | ⟨o, its, n, h1, h3, _⟩
    · exact .base (.tup h1)
    · exact .fTuple h1
    · exact .kTuple h1 h3
  | @ref n a hn =>
    simp only [isiF] at e
    split at e
    · rename_i vs hb
      cases e
      obtain ⟨xs, z1, z2⟩ := r.lst hn hb
      exact ⟨_, .base (.lst z1), kit_ty (by cases t <;> decide +kernel)⟩
    · rename_i vs hb
      cases e
      obtain ⟨xs, z1, z2⟩ := r.at_ hn hb
      refine ⟨.type "list", ?_, kit_ty (by cases t <;> decide +kernel)⟩
      rcases z1 with ⟨o, z1⟩ | (z1 | ⟨o, z1⟩) | ⟨o, its, n, h1, h3, _⟩
      · exact .base (.frz z1)
      · cases z1
      · cases z1
      · exact .kList h1 h3
    · rename_i kvs hb
      cases e
      obtain ⟨xs, z1, z2⟩ := r.dct hn hb
      exact ⟨_, .base (.dK z1), kit_ty (by cases t <;> decide +kernel)⟩
    · cases e
theorem s_isi {e : E} {t : Ty} {x z : Str} {pp zp pos : Pos} {y : Expr} (g : Good G ca CX EK n k X) (hx : x = "isinstance") (hg : biB G k x = true) (he : PE X y (tE (zz X G.nm ca) EX C e)) (hs : notStar y = true) (hz : z = tyN t) (hg2 : biB G k z = true) :
    PE X (.Call (.Name x pp) [y, .Name z zp] [] pos) (tE (zz X G.nm ca) EX C (.isi e t)) := by
  obtain ⟨g1, g2, g3⟩ := bi_ok g hg
  obtain ⟨g4, g5, g6⟩ := bi_ok g hg2
  subst hx hz
  have e2 : starEach [.Name (tyN t) zp] X.env = [(false, eval (.Name (tyN t) zp) X.env)] := rfl
  refine pe_w (pe_callB call_isi g1 g3 isi_boot (pa_cons he (pa_cons (pe_bltn (v := .ty (tyS t)) g4 g6 (ty_boot t) rfl (ty_name t) g5) pa_nil e2) (star_cons hs)) (by decide) g2 (star_cons hs) (star_any rfl)) fun σ H Q q => ?_
  obtain ⟨m, st, h, rs, p⟩ := q
  rw [ev] at p
  refine stepE rs p fun m1 H1 x1 v h1' e1 rs1 v1 p1 => ?_
  obtain ⟨b, eb, p2⟩ := PostG.ofO p1
  obtain ⟨u, t1, t2⟩ := isi_ok rs1.rep v1 eb
  exact ⟨x1, .ty (tyS t), u, .type (tyS t), b, rfl, .ty _, t1, t2, PostG.at_ p2 rs1.rep _ (.bl _)⟩
/-! displays -/
inductive Trs (Z : Ev) (EX : WX) (C : Calls) : Es → List (TE × TE) → Prop
  | nil : Trs Z EX C .nil []
  | cons {a b : E} {es : Es} {r : List (TE × TE)} : Trs Z EX C es r → Trs Z EX C (.cons a (.cons b es)) ((tE Z EX C a, tE Z EX C b) :: r)
theorem trs_ok {Z : Ev} {es : Es} {trs : List (TE × TE)} (t : Trs Z EX C es trs) : ∀ {β : Type} {m : List Addr} {h : Hs} {st : Sl} {σ : St} {H : Hp} {f : List Val → Hs → R β} {W : WT β} {K : List (V × V) → Hp → Prop}, RepS Z m st h σ H → PostG Z EX m H ((evs C es st h).bind f) W →
    (∀ m1 H1 xs vs h1, Ext m H m1 H1 → RepS Z m1 st h1 σ H1 → RVs Z.K m1 H1 vs xs → PostG Z EX m1 H1 (f vs h1) W → K (pairV xs) H1) → tPairs trs σ H K := by
  induction t with
  | nil =>
    intro β m h st σ H f W K rs p hk
    rw [evs] at p
    exact hk m H [] [] h (Ext.refl _ _) rs .nil p
  | @cons a b es r t ih =>
    intro β m h st σ H f W K rs p hk
    have e : (evs C (.cons a (.cons b es)) st h).bind f = (ev C a st h).bind fun x h => (ev C b st h).bind fun y h => (evs C es st h).bind fun xs h => f (x :: y :: xs) h := by
      rw [evs]
      cases ev C a st h with
      | ok x h1 =>
        rw [R.bind_ok, R.bind_ok]
        unfold consG
        rw [evs]
        cases ev C b st h1 with
        | ok y h2 =>
          rw [R.bind_ok, R.bind_ok]
          unfold consG
          cases evs C es st h2 <;> rfl
        | _ => rfl
      | _ => rfl
    rw [e] at p
    refine stepE rs p fun m1 H1 x va h1 e1 rs1 v1 p1 => ?_
    refine stepE rs1 p1 fun m2 H2 y vb h2 e2 rs2 v2 p2 => ?_
    refine ih rs2 p2 fun m3 H3 xs vs h3 e3 rs3 v3 p3 => ?_
    exact hk m3 H3 (x :: y :: xs) (va :: vb :: vs) h3 (e1.trans (e2.trans e3)) rs3 (.cons (RV.mono e3 _ _ (RV.mono e2 _ _ v1)) (.cons (RV.mono e3 _ _ v2) v3)) p3
theorem s_dic0 {pos : Pos} : PE X (.Dict [] [] pos) (tE (zz X G.nm ca) EX C (.dic .nil)) := by
  refine pe_w pe_dnewK fun σ H Q q => ?_
  obtain ⟨m, st, h, rs, p⟩ := q
  intro a ha
  rw [ev, evs, R.bind_ok] at p
  unfold dicF at p
  have e1 : (h ++ [Ob.dct []])[h.length]? = some (.dct []) := by simp
  rw [e1] at p
  simp only [pairsOf, List.length_nil, Nat.zero_le, if_true] at p
  have e2 : (h ++ [Ob.dct []]).set h.length (.dct (dmerge [])) = h ++ [.dct []] := by
    rw [List.set_append_right _ _ (Nat.le_refl _)]
    simp [dmerge]
  rw [e2] at p
  exact Post.mkNew (ob := .dct []) (Post.end_ (pure_new _ _) p) rs.rep ha ⟨[], upd_same, .nil⟩
theorem s_dic {es : Es} {keys : List (Option Expr)} {values : List Expr} {trs : List (TE × TE)} {pos : Pos} (t : Trs (zz X G.nm ca) EX C es trs) (h : PPs X pos keys values trs) (hall : keys.all (·.isSome) = true) (hl : keys.length = values.length) (h0 : keys ≠ [])
    (h15 : keys.length ≤ 15) : PE X (.Dict keys values pos) (tE (zz X G.nm ca) EX C (.dic es)) := by
  refine pe_w (pe_disp h hall hl h0 h15) fun σ H Q q => ?_
  obtain ⟨m, st, h, rs, p⟩ := q
  rw [ev] at p
  intro a ha
  have ex : Ext m H (m ++ [a]) (upd H a (.dK [])) := ext_new ha
  have r1 : Rep (zz X G.nm ca) (m ++ [a]) (h ++ [.dct []]) (upd H a (.dK [])) := rs.rep.new ha ⟨[], upd_same, .nil⟩
  have ea : (m ++ [a])[h.length]? = some a := by rw [← rs.rep.len]; simp
  refine trs_ok t (rs.mono ex r1) (p.mono ex) fun m1 H1 xs vs h1 e1 rs1 v1 p1 => ?_
  unfold dicF at p1
  split at p1
  · rename_i kvs e2 e3
    obtain ⟨kxs, w1, w2⟩ := rs1.rep.dct (e1.pre _ _ ea) e2
    cases w2
    obtain ⟨kx, z1, z2⟩ := pairs_rv v1 e3
    split at p1
    · rename_i hle
      refine ⟨w1, kx, z1, by rw [z2.len]; exact hle, ?_⟩
      exact Post.set (Post.end_ (pure_ok _ _) p1) rs1.rep (.ref (e1.pre _ _ ea)) (e1.pre _ _ ea) e2 rfl rfl w1 (fun _ z => by cases z) (fun _ _ z => by cases z) ⟨_, upd_same, (DR.fold z2 .nil).mono (ext_dct w1)⟩
    · exact False.elim p1
  · exact False.elim p1
end
end MP

set_option Elab.async false
set_option linter.all false
set_option maxRecDepth 100000
set_option maxHeartbeats 4000000
set_option autoImplicit false
/-! MPl: what is walked; comprehensions. -/
namespace MP
open PySem PySem.Spec L2
open PyProof.Rows hiding St

def tI (Z : Ev) (EX : WX) (C : Calls) (i : I) : TI := fun σ H R => ∃ m st h, RepS Z m st h σ H ∧ PostG Z EX m H (evi C i st h) (fun src m' _ H' => ∀ J, JR Z m' H' src J → R J H')
section
variable {X : Cx} {G : Tab} {ca : Nat → Addr} {CX : CXT} {EK : XK} {n : Nat} {k : Sc} {EX : WX} {C : Calls}
theorem i_val {e : E} {py tg : Expr} (he : PE X py (tE (zz X G.nm ca) EX C e)) : PI X tg py (tI (zz X G.nm ca) EX C (.val e)) := by
  refine pi_any fun σ H R q => ?_
  obtain ⟨m, st, h, rs, p⟩ := q
  rw [evi] at p
  cases r : ev C e st h with
  | stk => rw [r] at p; exact False.elim p
  | exc c vs h1 =>
    refine ⟨_, pi_list he, m, st, h, rs, ?_⟩
    rw [r] at p ⊢
    exact p
  | ok v h1 =>
    rw [r, MP.R.bind_ok] at p
    cases v with
    | tup vs =>
      refine ⟨_, pi_tup he, m, st, h, rs, ?_⟩
      rw [r]
      intro m' H' e' r' x rv
      cases rv with
      | tup a b => exact ⟨_, rfl, ⟨_, a⟩, p m' H' e' r' _ (jr_tup a b)⟩
    | str s =>
      refine ⟨_, pi_str he, m, st, h, rs, ?_⟩
      rw [r]
      intro m' H' e' r' x rv
      cases rv
      exact ⟨_, rfl, p m' H' e' r' _ (jr_str s)⟩
    | ref n' =>
      refine ⟨_, pi_list he, m, st, h, rs, ?_⟩
      rw [r]
      intro m' H' e' r' x rv
      cases rv with
      | ref hn =>
        unfold srcF at p
        dsimp only at p
        split at p
        · rename_i vs hb
          obtain ⟨xs, hq, _⟩ := r'.seqL hn (.inl hb)
          exact ⟨_, rfl, ⟨xs, hq⟩, p m' H' e' r' _ (jr_lst hn)⟩
        · rename_i vs hb
          obtain ⟨xs, hq, _⟩ := r'.seqL hn (.inr hb)
          exact ⟨_, rfl, ⟨xs, hq⟩, p m' H' e' r' _ (jr_lst hn)⟩
        · exact False.elim p
    | _ => exact False.elim p
theorem i_rng1 {a : E} {y tg : Expr} {nm : Str} {pp pos : Pos} (g : Good G ca CX EK n k X) (hx : nm = "range") (hg : biB G k nm = true) (ha : PE X y (tE (zz X G.nm ca) EX C a)) (hs : notStar y = true) :
    PI X tg (.Call (.Name nm pp) [y] [] pos) (tI (zz X G.nm ca) EX C (.rng1 a)) := by
  obtain ⟨g1, g2, g3⟩ := bi_ok g hg
  subst hx
  refine pi_any fun σ H R q => ⟨_, pi_range1 g1 g3 (pa_cons ha pa_nil (star_cons hs)) (star_cons hs), ?_⟩
  obtain ⟨m, st, h, rs, p⟩ := q
  rw [evi] at p
  refine stepE rs p fun m1 H1 x va h1 e1 rs1 v1 p1 => ?_
  cases v1 with
  | int i =>
    unfold rng1F at p1
    dsimp only at p1
    split at p1
    · rename_i hb
      exact ⟨i, rfl, hb.1, hb.2, PostG.at_ p1 rs1.rep _ (jr_rng 0 i.toNat)⟩
    · exact False.elim p1
  | _ => exact False.elim p1
theorem i_rng2 {a b : E} {y z tg : Expr} {nm : Str} {pp pos : Pos} (g : Good G ca CX EK n k X) (hx : nm = "range") (hg : biB G k nm = true) (ha : PE X y (tE (zz X G.nm ca) EX C a)) (hb : PE X z (tE (zz X G.nm ca) EX C b))
    (hs : notStar y = true) (hs2 : notStar z = true) : PI X tg (.Call (.Name nm pp) [y, z] [] pos) (tI (zz X G.nm ca) EX C (.rng2 a b)) := by
  obtain ⟨g1, g2, g3⟩ := bi_ok g hg
  subst hx
  have e2 : starEach [z] X.env = [(false, eval z X.env)] := star_cons hs2
  refine pi_any fun σ H R q => ⟨_, pi_range2 g1 g3 (pa_cons ha (pa_cons hb pa_nil e2) (star_cons hs)) ((star_cons hs).trans (by rw [e2])) e2, ?_⟩
  obtain ⟨m, st, h, rs, p⟩ := q
  rw [evi] at p
  refine stepE rs p fun m1 H1 x va h1 e1 rs1 v1 p1 => ?_
  refine stepE rs1 p1 fun m2 H2 y vb h2 e2 rs2 v2 p2 => ?_
  cases v1 with
  | int i =>
    cases v2 with
    | int j =>
      unfold rng2F at p2
      dsimp only at p2
      split at p2
      · rename_i hb
        exact ⟨i, j, rfl, hb, PostG.at_ p2 rs2.rep _ (jr_rng i _)⟩
      · exact False.elim p2
    | _ => exact False.elim p2
  | _ => exact False.elim p2
theorem i_rng3 {a b c : E} {y z w tg : Expr} {nm : Str} {pp pos : Pos} (g : Good G ca CX EK n k X) (hx : nm = "range") (hg : biB G k nm = true) (ha : PE X y (tE (zz X G.nm ca) EX C a)) (hb : PE X z (tE (zz X G.nm ca) EX C b)) (hc : PE X w (tE (zz X G.nm ca) EX C c))
    (hs : notStar y = true) (hs2 : notStar z = true) (hs3 : notStar w = true) : PI X tg (.Call (.Name nm pp) [y, z, w] [] pos) (tI (zz X G.nm ca) EX C (.rng3 a b c)) := by
  obtain ⟨g1, g2, g3⟩ := bi_ok g hg
  subst hx
  have e3 : starEach [w] X.env = [(false, eval w X.env)] := star_cons hs3
  have e2 : starEach [z, w] X.env = (false, eval z X.env) :: starEach [w] X.env := star_cons hs2
  refine pi_any fun σ H R q => ⟨_, pi_range3 g1 g3 (pa_cons ha (pa_cons hb (pa_cons hc pa_nil e3) e2) (star_cons hs)) (star_cons hs) (star_any (by simp [hs2, hs3])), ?_⟩
  obtain ⟨m, st, h, rs, p⟩ := q
  rw [evi] at p
  refine stepE rs p fun m1 H1 x va h1 e1 rs1 v1 p1 => ?_
  refine stepE rs1 p1 fun m2 H2 y vb h2 e2 rs2 v2 p2 => ?_
  refine stepE rs2 p2 fun m3 H3 w vc h3 e3 rs3 v3 p3 => ?_
  cases v1 with
  | int i =>
    cases v2 with
    | int j =>
      cases v3 with
      | int l =>
        unfold rng3F at p3
        split at p3
        · rename_i ea eb ec
          cases ea
          cases eb
          cases ec
          split at p3
          · rename_i hb
            exact ⟨_, _, -1, _, rfl, RgC.neg hb.1 hb.2.1 hb.2.2.1 hb.2.2.2, PostG.at_ p3 rs3.rep _ (jr_rngC _ (-1) _)⟩
          · exact False.elim p3
        · exact False.elim p3
      | _ => exact False.elim p3
    | _ => exact False.elim p3
  | _ => exact False.elim p3
theorem i_enu {a : E} {y : Expr} {elts : List Expr} {kk : Nat} {tpos : Pos} {nm : Str} {pp pos : Pos} (g : Good G ca CX EK n k X) (hx : nm = "enumerate") (hg : biB G k nm = true) (ha : PE X y (tE (zz X G.nm ca) EX C a)) (hs : notStar y = true) :
    PI X (.Tuple elts kk tpos) (.Call (.Name nm pp) [y] [] pos) (tI (zz X G.nm ca) EX C (.enu a)) := by
  obtain ⟨g1, g2, g3⟩ := bi_ok g hg
  subst hx
  refine pi_any fun σ H R q => ⟨_, pi_enumA g1 g3 (pa_cons ha pa_nil (star_cons hs)) (star_cons hs), ?_⟩
  obtain ⟨m, st, h, rs, p⟩ := q
  rw [evi] at p
  refine stepE rs p fun m1 H1 x va h1 e1 rs1 v1 p1 => ?_
  cases v1 with
  | @ref n' _ hn =>
    unfold enuF at p1
    dsimp only at p1
    split at p1
    · rename_i vs hb
      obtain ⟨xs, hq, _⟩ := rs1.rep.seqL hn (.inl hb)
      exact ⟨_, xs, rfl, .inl ⟨hq, PostG.at_ p1 rs1.rep _ (jr_enu hn)⟩⟩
    · rename_i vs hb
      obtain ⟨xs, hq, _⟩ := rs1.rep.seqL hn (.inr hb)
      exact ⟨_, xs, rfl, .inl ⟨hq, PostG.at_ p1 rs1.rep _ (jr_enu hn)⟩⟩
    · exact False.elim p1
  | tup hq rvs => exact ⟨_, _, rfl, .inr ⟨hq, PostG.at_ p1 rs1.rep _ (jr_enuT hq rvs)⟩⟩
  | _ => exact False.elim p1

/-! ### comprehensions -/
theorem c_none : PTs X [] (tEc (zz X G.nm ca) EX C .none) := by
  refine pts_w pts_nil fun σ H Q q => ?_
  obtain ⟨m, st, h, rs, p⟩ := q
  rw [etc] at p
  exact p.at_ rs.rep
theorem c_some {e : E} {x : Expr} (h : PT X x (tT (zz X G.nm ca) EX C e)) : PTs X [x] (tEc (zz X G.nm ca) EX C (.some e)) := by
  refine pts_w (pts_one h) fun σ H Q q => ?_
  obtain ⟨m, st, h, rs, p⟩ := q
  rw [etc] at p
  exact ⟨m, st, h, rs, p⟩
/-- one turn's work -/
def stepV (C : Calls) (elt : E) (tg : Tg) (cond : Eo) (st : Sl) (ws : List Nat) : Val → Hs → R (Option Val) := stepG tg (etc C cond) (ev C elt) (wipeS st ws)
theorem lc_ok {elt : E} {tg : Tg} {it : I} {cond : Eo} {ws : List Nat} {σ : St} {H : Hp} {Q : VK} (htg : ∀ j ∈ tgI tg, j ∈ ws)
    (q : ∃ m st h, RepS (zz X G.nm ca) m st h σ H ∧ PostG (zz X G.nm ca) EX m H ((evi C it st h).bind (lcG (stepV C elt tg cond st ws))) (wV (zz X G.nm ca) Q)) :
    tLc (tI (zz X G.nm ca) EX C it) (gOf X.K tg) (tEc (zz X G.nm ca) noE C cond) (tE (zz X G.nm ca) noE C elt) ws σ H Q := by
  obtain ⟨m, st, h, rs, p⟩ := q
  refine ⟨m, st, h, rs, ?_⟩
  cases r : evi C it st h with
  | stk => rw [r] at p; exact False.elim p
  | exc _ _ _ => rw [r] at p; exact p
  | ok src h1 =>
    rw [r, R.bind_ok] at p
    unfold lcG at p
    intro m1 H1 e1 r1 J jr D hD
    have p1 := PostG.mono p e1
    have rs1 := rs.mono e1 r1
    have exD : Ext m1 H1 (m1 ++ [D]) (upd H1 D (.lst [])) := ext_new hD
    have rD : Rep (zz X G.nm ca) (m1 ++ [D]) (h1 ++ [.lst []]) (upd H1 D (.lst [])) := r1.new hD ⟨[], upd_same, .nil⟩
    have eD : (m1 ++ [D])[h1.length]? = some D := by rw [← r1.len]; simp
    have p2 := PostG.mono p1 exD
    refine ⟨fun i ms H' => ∃ mm hh, Ext (m1 ++ [D]) (upd H1 D (.lst [])) mm H' ∧ Rep (zz X G.nm ca) mm hh H' ∧ ms = src.items.length - i ∧ i ≤ src.items.length ∧
        PostG (zz X G.nm ca) EX mm H' ((compV (stepV C elt tg cond st ws) src h1.length (src.items.drop i) hh).bind (lcK h1.length)) (wV (zz X G.nm ca) Q),
      ⟨src.items.length, m1 ++ [D], h1 ++ [.lst []], Ext.refl _ _, rD, rfl, Nat.zero_le _, by rw [List.drop_zero]; exact p2⟩, ?_⟩
    rintro i ms H' ⟨mm, hh, ex, rr, rfl, hi, pp⟩
    have exm := exD.trans ex
    by_cases hlt : i < src.items.length
    · rw [List.drop_eq_getElem_cons hlt, compV] at pp
      by_cases hok : src.ok hh = true
      · rw [if_pos hok] at pp
        obtain ⟨j1, _⟩ := jr mm hh H' exm rr hok i
        obtain ⟨j2, j3⟩ := j1 _ (List.getElem?_eq_getElem hlt)
        refine .inr ⟨j2, fun H'' => ∃ ms', ms' < src.items.length - i ∧ ∃ mm hh, Ext (m1 ++ [D]) (upd H1 D (.lst [])) mm H'' ∧ Rep (zz X G.nm ca) mm hh H'' ∧ ms' = src.items.length - (i + 1) ∧ i + 1 ≤ src.items.length ∧
          PostG (zz X G.nm ca) EX mm H'' ((compV (stepV C elt tg cond st ws) src h1.length (src.items.drop (i + 1)) hh).bind (lcK h1.length)) (wV (zz X G.nm ca) Q), fun H'' z => z, fun x H'' hy => ?_⟩
        obtain ⟨m2, e2, r2, v2⟩ := j3 x H'' hy
        have pp' : PostG (zz X G.nm ca) EX m2 H'' ((noX (stepV C elt tg cond st ws src.items[i] hh)).bind fun o h1' => (match o with
          | none => compV (stepV C elt tg cond st ws) src h1.length (src.items.drop (i + 1)) h1'
          | some y => match h1'[h1.length]? with
            | some (.lst acc) => if acc.length < lim then compV (stepV C elt tg cond st ws) src h1.length (src.items.drop (i + 1)) (h1'.set h1.length (.lst (acc ++ [y]))) else .stk
            | _ => .stk).bind (lcK h1.length)) (wV (zz X G.nm ca) Q) := by
          have z := PostG.mono pp e2
          cases w : noX (stepV C elt tg cond st ws src.items[i] hh) with
          | ok a b => rw [w] at z; exact z
          | exc _ _ _ => rw [w] at z; exact z
          | stk => rw [w] at z; exact z
        have p3 := PostG.noX pp'
        unfold stepV stepG at p3
        have rsw : RepS (zz X G.nm ca) m2 (wipeS st ws) hh (L2.wipe σ ws) H'' := (rs1.mono (exm.trans e2) r2).wipe ws
        cases w : setT tg src.items[i] (wipeS st ws) with
        | none => rw [w] at p3; exact False.elim p3
        | some st1 =>
          rw [w] at p3
          dsimp only at p3
          refine setT_ok rsw v2 w fun σ1 rs2 hw => ⟨(hw ws htg).trans wipe_wipe, ?_⟩
          have ex2 := ex.trans e2
          refine stepEc rs2 p3 fun m3 H3 b h3 e3 rs3 p4 => ?_
          cases b with
          | false =>
            rw [if_neg Bool.false_ne_true]
            exact ⟨_, by omega, m3, h3, ex2.trans e3, rs3.rep, rfl, hlt, PostG.at_ p4 rs3.rep⟩
          | true =>
            rw [if_pos rfl]
            refine stepE rs3 p4 fun m4 H4 y vy h4 e4 rs4 v4 p5 => ?_
            have p6 := PostG.at_ p5 rs4.rep
            dsimp only at p6
            have eD4 := (ex2.trans (e3.trans e4)).pre _ _ eD
            split at p6
            · rename_i acc ea
              obtain ⟨xs, z1, z2⟩ := rs4.rep.lst eD4 ea
              split at p6
              · rename_i hla
                refine ⟨xs, z1, by rw [← z2.len, lim_eq]; exact hla, _, by omega, m4, h4.set h1.length (.lst (acc ++ [vy])), ?_, ?_, rfl, hlt, PostG.mono p6 (ext_lst z1)⟩
                · exact (ex2.trans (e3.trans e4)).trans (ext_lst z1)
                · exact rs4.rep.set eD4 ea rfl rfl z1 (fun _ z => by cases z) (fun _ _ z => by cases z) ⟨_, upd_same, RVs.mono (ext_lst z1) _ _ (z2.append (.cons v4 .nil))⟩
              · exact False.elim p6
            · exact False.elim p6
      · rw [if_neg hok] at pp
        exact False.elim pp
    · have hie : i = src.items.length := by omega
      subst hie
      rw [List.drop_length, compV] at pp
      by_cases hok : src.ok hh = true
      · rw [if_pos hok] at pp
        obtain ⟨_, j2⟩ := jr mm hh H' exm rr hok src.items.length
        exact .inl ⟨j2 (Nat.le_refl _), PostG.at_ pp rr _ (.ref (ex.pre _ _ eD))⟩
      · rw [if_neg hok] at pp
        exact False.elim pp
end
end MP

set_option Elab.async false
set_option linter.all false
set_option maxRecDepth 100000
set_option maxHeartbeats 8000000
set_option autoImplicit false
/-! MPm: every expression that the check lets through. -/
namespace MP
open PySem PySem.Spec L2
open PyProof.Rows hiding St

def Trip (X : Cx) (Z : Ev) (EX : WX) (C : Calls) (e : E) (py : Expr) : Prop := PE X py (tE Z EX C e) ∧ PT X py (tT Z EX C e) ∧ ((∃ op vs p, py = .BoolOp op vs p) → PW X py (tT Z EX C e))
section
variable {X : Cx} {G : Tab} {ca : Nat → Addr} {CX : CXT} {EK : XK} {n : Nat} {k : Sc} {EX : WX} {C : Calls}
theorem trip {e : E} {py : Expr} (hp : PE X py (tE (zz X G.nm ca) EX C e)) (he : ∀ whole, isTrue py X.env whole = (do let v ← whole; standAt py.pos; holding [v] (truthy v)))
    (hq : ∀ st h, et C e st h = (ev C e st h).bind fun x h => ofO (truF h x) h) (nb : ¬ ∃ op vs p, py = .BoolOp op vs p) : Trip X (zz X G.nm ca) EX C e py := ⟨hp, pt_plain hp he hq, fun z => absurd z nb⟩
theorem Good.block {scope : Scope} {s : Shared} {H : Hp} {cl : List (Str × Addr)} {Ca : Addr} {fp : List Addr} (g : Good G ca CX EK n k X) :
    Good G ca CX (fun _ _ _ => False) n ⟨k.N, relS scope k.sc, fun x => scope.names.lookup x == some .cell⟩ (X.blk s H scope (compEnvC scope cl Ca X.env) fp) := by
  refine ⟨g.N, g.nd, ?_, fun x h => h, g.calm, g.room, g.lk, fun pins σ H s e s' _ h => g.lk.nox _ _ _ _ _ h⟩
  show relabel scope X.env = _
  show relS scope X.env.scope = _
  rw [g.sc]
end
section
variable {G : Tab} {ca : Nat → Addr} {CX : CXT}
mutual
theorem sE : ∀ (e : E) {k : Sc} {n : Nat} {X : Cx} {EK : XK} {py : Expr}, Good G ca CX EK n k X → chkE G k e py = true → Trip X (zz X G.nm ca) (exOf (zz X G.nm ca) EK) (callsN G n) e py
  | .var i, k, n, X, EK, py, g, h => by
    unfold chkE at h
    split at h
    · simp only [Bool.and_eq_true, decide_eq_true_eq] at h
      exact trip (s_var g.N g.sc h.1 h.2) (fun _ => rfl) (fun _ _ => rfl) (by rintro ⟨_, _, _, q⟩; cases q)
    · cases h
  | .non, k, n, X, EK, py, g, h => by
    unfold chkE at h
    split at h
    · exact trip (s_const (v := .non) pe_non (fun _ _ => rfl) fun _ _ => .non) (fun _ => rfl) (fun _ _ => rfl) (by rintro ⟨_, _, _, q⟩; cases q)
    · cases h
  | .tt b, k, n, X, EK, py, g, h => by
    unfold chkE at h
    split at h
    · rename_i c _ _
      obtain rfl : b = c := eq_of_beq h
      exact trip (s_const (v := .bl b) pe_bl (fun _ _ => rfl) fun _ _ => .bl b) (fun _ => rfl) (fun _ _ => rfl) (by rintro ⟨_, _, _, q⟩; cases q)
    · cases h
  | .int i, k, n, X, EK, py, g, h => by
    unfold chkE at h
    split at h
    · rename_i c _ _
      obtain rfl : i = c := of_decide_eq_true h
      exact trip (s_const (v := .int i) pe_int (fun _ _ => rfl) fun _ _ => .int i) (fun _ => rfl) (fun _ _ => rfl) (by rintro ⟨_, _, _, q⟩; cases q)
    · cases h
  | .str s, k, n, X, EK, py, g, h => by
    unfold chkE at h
    split at h
    · rename_i c _ _
      obtain rfl : mk s = c := of_decide_eq_true h
      exact trip (s_const (v := .str s) pe_str (fun _ _ => rfl) fun _ _ => .str s) (fun _ => rfl) (fun _ _ => rfl) (by rintro ⟨_, _, _, q⟩; cases q)
    · cases h
  | .glob i, k, n, X, EK, py, g, h => by
    unfold chkE at h
    split at h
    · simp only [Bool.and_eq_true, decide_eq_true_eq] at h
      exact trip (s_glob (v := .non) g rfl h.1 h.2) (fun _ => rfl) (fun _ _ => rfl) (by rintro ⟨_, _, _, q⟩; cases q)
    · cases h
  | .bin op a b, k, n, X, EK, py, g, h => by
    unfold chkE at h
    split at h
    · simp only [Bool.and_eq_true, decide_eq_true_eq] at h
      obtain ⟨⟨rfl, h1⟩, h2⟩ := h
      exact trip (s_bin (sE a g h1).1 (sE b g h2).1) (fun _ => rfl) (fun _ _ => rfl) (by rintro ⟨_, _, _, q⟩; cases q)
    · cases h
  | .neg a, k, n, X, EK, py, g, h => by
    unfold chkE at h
    split at h
    · exact trip (s_neg (sE a g h).1) (fun _ => rfl) (fun _ _ => rfl) (by rintro ⟨_, _, _, q⟩; cases q)
    · cases h
  | .not a, k, n, X, EK, py, g, h => by
    unfold chkE at h
    split at h
    · have ih := sE a g h
      exact ⟨s_not ih.1, st_not ih.2.1, by rintro ⟨_, _, _, q⟩; cases q⟩
    · cases h
  | .cmp op a b, k, n, X, EK, py, g, h => by
    unfold chkE at h
    split at h
    · simp only [Bool.and_eq_true, decide_eq_true_eq] at h
      obtain ⟨⟨⟨rfl, h1⟩, h2⟩, h3⟩ := h
      have ia := sE a g h1
      have ib := sE b g h2
      exact ⟨s_cmp g.hu ia.1 ib.1 h3, st_cmp g.hu ia.1 ib.1 h3, by rintro ⟨_, _, _, q⟩; cases q⟩
    · cases h
  | .chain op op2 a b c, k, n, X, EK, py, g, h => by
    unfold chkE at h
    split at h
    · simp only [Bool.and_eq_true, decide_eq_true_eq] at h
      obtain ⟨⟨⟨⟨⟨⟨rfl, rfl⟩, h1⟩, h2⟩, h3⟩, h4⟩, h5⟩ := h
      have ia := sE a g h1
      have ib := sE b g h2
      have ic := sE c g h3
      exact ⟨s_chain g.hu ia.1 ib.1 ic.1 h5, st_chain g.hu ia.1 ib.1 ic.1 h5, by rintro ⟨_, _, _, q⟩; cases q⟩
    · cases h
  | .chain3 op op2 op3 a b c d, k, n, X, EK, py, g, h => by
    unfold chkE at h
    split at h
    · simp only [Bool.and_eq_true, decide_eq_true_eq] at h
      obtain ⟨⟨⟨⟨⟨⟨⟨rfl, rfl⟩, rfl⟩, h1⟩, h2⟩, h3⟩, h4⟩, h5⟩ := h
      have ia := sE a g h1
      have ib := sE b g h2
      have ic := sE c g h3
      have id := sE d g h4
      exact ⟨s_chain3 g.hu ia.1 ib.1 ic.1 id.1 h5, st_chain3 g.hu ia.1 ib.1 ic.1 id.1 h5, by rintro ⟨_, _, _, q⟩; cases q⟩
    · cases h
  | .and a b, k, n, X, EK, py, g, h => by
    unfold chkE at h
    split at h
    · rename_i pos
      simp only [Bool.and_eq_true, decide_eq_true_eq] at h
      have ia := sE a g h.1
      have ib := sE b g h.2
      have w := st_and (pos := pos) ia.2.1 (pw_and1 ib.2.1)
      exact ⟨s_and ia.1 (pe_one ib.1), w.pt, fun _ => w⟩
    · simp only [Bool.and_eq_true, decide_eq_true_eq] at h
      have ia := sE a g h.1
      have ib := sE b g h.2
      have w := st_and ia.2.1 (ib.2.2 ⟨_, _, _, rfl⟩)
      exact ⟨s_and ia.1 ib.1, w.pt, fun _ => w⟩
    · cases h
  | .or a b, k, n, X, EK, py, g, h => by
    unfold chkE at h
    split at h
    · rename_i pos
      simp only [Bool.and_eq_true, decide_eq_true_eq] at h
      have ia := sE a g h.1
      have ib := sE b g h.2
      have w := st_or (pos := pos) ia.2.1 (pw_or1 ib.2.1)
      exact ⟨s_or ia.1 (pe_one ib.1), w.pt, fun _ => w⟩
    · simp only [Bool.and_eq_true, decide_eq_true_eq] at h
      have ia := sE a g h.1
      have ib := sE b g h.2
      have w := st_or ia.2.1 (ib.2.2 ⟨_, _, _, rfl⟩)
      exact ⟨s_or ia.1 ib.1, w.pt, fun _ => w⟩
    · cases h
  | .ife c a b, k, n, X, EK, py, g, h => by
    unfold chkE at h
    split at h
    · simp only [Bool.and_eq_true, decide_eq_true_eq] at h
      have ic := sE c g h.1.1
      have ia := sE a g h.1.2
      have ib := sE b g h.2
      exact ⟨s_ife ic.2.1 ia.1 ib.1, st_ife ic.2.1 ia.2.1 ib.2.1, by rintro ⟨_, _, _, q⟩; cases q⟩
    · cases h
  | .tup es, k, n, X, EK, py, g, h => by
    unfold chkE at h
    split at h
    · exact trip (s_tup (sEs es g h).1) (fun _ => rfl) (fun _ _ => rfl) (by rintro ⟨_, _, _, q⟩; cases q)
    · cases h
  | .lst es, k, n, X, EK, py, g, h => by
    unfold chkE at h
    split at h
    · exact trip (s_lst (sEs es g h).1) (fun _ => rfl) (fun _ _ => rfl) (by rintro ⟨_, _, _, q⟩; cases q)
    · cases h
  | .dic es, k, n, X, EK, py, g, h => by
    unfold chkE at h
    split at h
    · rename_i ks vs _
      simp only [Bool.and_eq_true, decide_eq_true_eq] at h
      obtain ⟨trs, t, pp, hall, h0⟩ := sD es (pos := _) g h.2
      cases ks with
      | nil =>
        cases vs with
        | nil =>
          obtain rfl := h0 rfl
          exact trip s_dic0 (fun _ => rfl) (fun _ _ => rfl) (by rintro ⟨_, _, _, q⟩; cases q)
        | cons _ _ => cases h.1.2
      | cons k0 kr => exact trip (s_dic t pp hall h.1.2 (by simp) h.1.1) (fun _ => rfl) (fun _ _ => rfl) (by rintro ⟨_, _, _, q⟩; cases q)
    · cases h
  | .call f es, k, n, X, EK, py, g, h => by
    unfold chkE at h
    split at h
    · rename_i x _ xs _
      simp only [Bool.and_eq_true] at h
      cases q : G.fns[f]? with
      | none => rw [q] at h; cases h.1.1
      | some d =>
        rw [q] at h
        simp only [Bool.and_eq_true, decide_eq_true_eq, Option.isNone_iff_eq_none] at h
        obtain ⟨a, b, c⟩ := sEs es g h.2
        exact trip (s_call g q h.1.1.1 h.1.1.2 h.1.2 a b c) (fun _ => rfl) (fun _ _ => rfl) (by rintro ⟨_, _, _, q⟩; cases q)
    · cases h
  | .new c es, k, n, X, EK, py, g, h => by
    unfold chkE at h
    split at h
    · rename_i x _ xs _
      simp only [Bool.and_eq_true] at h
      cases q : G.cls[c]? with
      | none => rw [q] at h; cases h.1.1
      | some d =>
        rw [q] at h
        simp only [Bool.and_eq_true, decide_eq_true_eq] at h
        obtain ⟨a, b, c⟩ := sEs es g h.2
        exact trip (s_new g q h.1.1.2 h.1.1.1 h.1.2 a b c) (fun _ => rfl) (fun _ _ => rfl) (by rintro ⟨_, _, _, q⟩; cases q)
    · cases h
  | .meth o m es, k, n, X, EK, py, g, h => by
    unfold chkE at h
    split at h
    · simp only [Bool.and_eq_true, decide_eq_true_eq] at h
      obtain ⟨⟨⟨⟨⟨h1, h2⟩, h3⟩, h4⟩, h5⟩, h6⟩ := h
      obtain ⟨a, b, c⟩ := sEs es g h3
      exact trip (s_meth g h1 (sE o g h2).1 a b c h4 h5 h6) (fun _ => rfl) (fun _ _ => rfl) (by rintro ⟨_, _, _, q⟩; cases q)
    · cases h
  | .prim p es, k, n, X, EK, py, g, h => by
    unfold chkE at h
    split at h
    · rename_i x _ xs _
      simp only [Bool.and_eq_true, decide_eq_true_eq] at h
      obtain ⟨⟨⟨h1, h2⟩, h3⟩, h4⟩ := h
      obtain ⟨a, b, c⟩ := sEs es g h3
      cases xs with
      | nil => cases h4
      | cons y ys => exact trip (s_prim g h1 h2 a b) (fun _ => rfl) (fun _ _ => rfl) (by rintro ⟨_, _, _, q⟩; cases q)
    · cases h
  | .pm p o es, k, n, X, EK, py, g, h => by
    unfold chkE at h
    split at h
    · simp only [Bool.and_eq_true, decide_eq_true_eq] at h
      obtain ⟨⟨⟨⟨⟨h1, h2⟩, h3⟩, h4⟩, h5⟩, h6⟩ := h
      obtain ⟨a, b, c⟩ := sEs es g h3
      exact trip (s_pm g.hu h1 (sE o g h2).1 a b c h4 h5 h6) (fun _ => rfl) (fun _ _ => rfl) (by rintro ⟨_, _, _, q⟩; cases q)
    · cases h
  | .fld o f, k, n, X, EK, py, g, h => by
    unfold chkE at h
    split at h
    · simp only [Bool.and_eq_true, decide_eq_true_eq] at h
      exact trip (s_fld h.1.1 (sE o g h.1.2).1 h.2) (fun _ => rfl) (fun _ _ => rfl) (by rintro ⟨_, _, _, q⟩; cases q)
    · cases h
  | .ix a b, k, n, X, EK, py, g, h => by
    unfold chkE at h
    split at h
    · simp only [Bool.and_eq_true, decide_eq_true_eq] at h
      exact trip (s_ix g.hu (sE a g h.1.1).1 (sE b g h.1.2).1 h.2) (fun _ => rfl) (fun _ _ => rfl) (by rintro ⟨_, _, _, q⟩; cases q)
    · cases h
  | .sl a lo hi, k, n, X, EK, py, g, h => by
    unfold chkE at h
    split at h
    · simp only [Bool.and_eq_true, decide_eq_true_eq] at h
      exact trip (s_sl (sE a g h.1.1).1 (sO lo g h.1.2) (sO hi g h.2)) (fun _ => rfl) (fun _ _ => rfl) (by rintro ⟨_, _, _, q⟩; cases q)
    · cases h
  | .lc elt tg it cond own, k, n, X, EK, py, g, h => by
    unfold chkE at h
    split at h
    · simp only [Bool.and_eq_true] at h
      obtain ⟨⟨⟨⟨⟨⟨h1, h2⟩, h3⟩, h4⟩, h5⟩, h6⟩, h7⟩ := h
      refine trip (pe_w (pe_lc (wi := tI (zz X G.nm ca) (exOf (zz X G.nm ca) EK) (callsN G n) it) (g := gOf X.K tg) (tt := tEc (zz X G.nm ca) noE (callsN G n) cond) (te := tE (zz X G.nm ca) noE (callsN G n) elt) g.calm (by rw [g.N]; exact g.nd) (sI it g h1) (by rw [g.N, g.sc]; exact blkOk_by h2)
        (fun s H Ca cl fp => pg_of (k := ⟨k.N, relS _ k.sc, _⟩) g.block.N g.nd g.block.sc g.block.fn g.calm h5)
        (fun s H Ca cl fp => sC cond g.block h6) (fun s H Ca cl fp => (sE elt g.block h7).1) (noset_fold h3)) fun σ H Q q => ?_) (fun _ => rfl) (fun _ _ => rfl) (by rintro ⟨_, _, _, q⟩; cases q)
      refine lc_ok (EX := exOf (zz X G.nm ca) EK) (fun j hj => ?_) ?_
      · have := List.all_eq_true.mp h4 j hj
        simp only [Bool.and_eq_true, List.contains_iff_mem] at this
        exact this.1
      · obtain ⟨m, st, h, rs, p⟩ := q
        rw [ev] at p
        exact ⟨m, st, h, rs, p⟩
    · cases h
  | .gix i e, k, n, X, EK, py, g, h => by
    unfold chkE at h
    split at h
    · simp only [Bool.and_eq_true, decide_eq_true_eq] at h
      obtain ⟨⟨⟨⟨⟨⟨h1, h2⟩, h3⟩, h4⟩, h5⟩, h6⟩, h7⟩ := h
      subst h4
      exact trip (s_gix g rfl h1 h2 h3 (sE e g h5).1 h6 h7) (fun _ => rfl) (fun _ _ => rfl) (by rintro ⟨_, _, _, q⟩; cases q)
    · cases h
  | .isi e t, k, n, X, EK, py, g, h => by
    unfold chkE at h
    split at h
    · simp only [Bool.and_eq_true, decide_eq_true_eq] at h
      obtain ⟨⟨⟨⟨⟨h1, h2⟩, h3⟩, h4⟩, h5⟩, h6⟩ := h
      exact trip (s_isi g h1 h2 (sE e g h3).1 h4 h5 h6) (fun _ => rfl) (fun _ _ => rfl) (by rintro ⟨_, _, _, q⟩; cases q)
    · cases h
theorem sEs : ∀ (es : Es) {k : Sc} {n : Nat} {X : Cx} {EK : XK} {xs : List Expr}, Good G ca CX EK n k X → chkEs G k es xs = true →
    PA X xs (tEs (zz X G.nm ca) (exOf (zz X G.nm ca) EK) (callsN G n) es) ∧ xs.all notStar = true ∧ (xs = [] → es = .nil)
  | .nil, k, n, X, EK, xs, g, h => by
    unfold chkEs at h
    cases xs with
    | nil => exact ⟨s_nil, rfl, fun _ => rfl⟩
    | cons _ _ => cases h
  | .cons e es, k, n, X, EK, xs, g, h => by
    unfold chkEs at h
    cases xs with
    | nil => cases h
    | cons x r =>
      simp only [Bool.and_eq_true] at h
      obtain ⟨a, b, c⟩ := sEs es g h.2
      exact ⟨s_cons (sE e g h.1.1).1 a h.1.2, by rw [List.all_cons, h.1.2, b]; rfl, fun q => by cases q⟩
theorem sD : ∀ (es : Es) {k : Sc} {n : Nat} {X : Cx} {EK : XK} {ks : List (Option Expr)} {vs : List Expr} {pos : Pos}, Good G ca CX EK n k X → chkD G k es ks vs = true →
    ∃ trs, Trs (zz X G.nm ca) (exOf (zz X G.nm ca) EK) (callsN G n) es trs ∧ PPs X pos ks vs trs ∧ ks.all (·.isSome) = true ∧ (ks = [] → es = .nil)
  | .nil, k, n, X, EK, ks, vs, pos, g, h => by
    unfold chkD at h
    simp only [Bool.and_eq_true, List.isEmpty_iff] at h
    obtain ⟨rfl, rfl⟩ := h
    exact ⟨[], .nil, pps_nil, rfl, fun _ => rfl⟩
  | .cons e .nil, k, n, X, EK, ks, vs, pos, g, h => by
    unfold chkD at h
    cases h
  | .cons e (.cons e2 es2), k, n, X, EK, ks, vs, pos, g, h => by
    unfold chkD at h
    dsimp only at h
    split at h
    · rename_i x ks y vs
      simp only [Bool.and_eq_true] at h
      obtain ⟨trs, t, pp, hall, _⟩ := sD es2 (pos := pos) g h.2
      exact ⟨_, .cons t, pps_cons (sE e g h.1.1).1 (sE e2 g h.1.2).1 pp, by rw [List.all_cons, hall]; rfl, fun q => by cases q⟩
    · cases h
theorem sO : ∀ (e : Eo) {k : Sc} {n : Nat} {X : Cx} {EK : XK} {x : Option Expr}, Good G ca CX EK n k X → chkO G k e x = true → PO X x (tEo (zz X G.nm ca) (exOf (zz X G.nm ca) EK) (callsN G n) e)
  | .none, k, n, X, EK, x, g, h => by
    unfold chkO at h
    cases x with
    | none => exact s_po_none
    | some _ => cases h
  | .some e, k, n, X, EK, x, g, h => by
    unfold chkO at h
    cases x with
    | none => cases h
    | some x => exact s_po_some (sE e g h).1
theorem sC : ∀ (e : Eo) {k : Sc} {n : Nat} {X : Cx} {EK : XK} {xs : List Expr}, Good G ca CX EK n k X → chkC G k e xs = true → PTs X xs (tEc (zz X G.nm ca) (exOf (zz X G.nm ca) EK) (callsN G n) e)
  | .none, k, n, X, EK, xs, g, h => by
    unfold chkC at h
    cases xs with
    | nil => exact c_none
    | cons _ _ => cases h
  | .some e, k, n, X, EK, xs, g, h => by
    unfold chkC at h
    split at h
    · exact c_some (sE e g h).2.1
    · cases h
theorem sI : ∀ (i : I) {k : Sc} {n : Nat} {X : Cx} {EK : XK} {tg : Tg} {py t : Expr}, Good G ca CX EK n k X → chkI G k tg i py t = true → PI X t py (tI (zz X G.nm ca) (exOf (zz X G.nm ca) EK) (callsN G n) i)
  | .val e, k, n, X, EK, tg, py, t, g, h => by
    unfold chkI at h
    exact i_val (sE e g h).1
  | .rng1 a, k, n, X, EK, tg, py, t, g, h => by
    unfold chkI at h
    split at h
    · simp only [Bool.and_eq_true, decide_eq_true_eq] at h
      exact i_rng1 g h.1.1.1 h.1.1.2 (sE a g h.1.2).1 h.2
    · cases h
  | .rng2 a b, k, n, X, EK, tg, py, t, g, h => by
    unfold chkI at h
    split at h
    · simp only [Bool.and_eq_true, decide_eq_true_eq] at h
      obtain ⟨⟨⟨⟨⟨h1, h2⟩, h3⟩, h4⟩, h5⟩, h6⟩ := h
      exact i_rng2 g h1 h2 (sE a g h3).1 (sE b g h5).1 h4 h6
    · cases h
  | .rng3 a b c, k, n, X, EK, tg, py, t, g, h => by
    unfold chkI at h
    split at h
    · simp only [Bool.and_eq_true, decide_eq_true_eq] at h
      obtain ⟨⟨⟨⟨⟨⟨⟨h1, h2⟩, h3⟩, h4⟩, h5⟩, h6⟩, h7⟩, h8⟩ := h
      exact i_rng3 g h1 h2 (sE a g h3).1 (sE b g h5).1 (sE c g h7).1 h4 h6 h8
    · cases h
  | .enu a, k, n, X, EK, tg, py, t, g, h => by
    unfold chkI at h
    split at h
    · simp only [Bool.and_eq_true, decide_eq_true_eq] at h
      obtain ⟨⟨⟨⟨h1, h2⟩, h3⟩, h4⟩, h5⟩ := h
      cases t <;> first
        | (exact Bool.noConfusion h5)
        | exact i_enu g h1 h2 (sE a g h3).1 h4
    · cases h
end
end
end MP

set_option Elab.async false
set_option linter.all false
set_option maxRecDepth 100000
set_option maxHeartbeats 4000000
set_option autoImplicit false
/-! MPn: operations in place; readings of statements. -/
namespace MP
open PySem PySem.Spec L2
open PyProof.Rows hiding St
section
variable {X : Cx} {nm : List Str} {ca : Nat → Addr}
theorem op_ip (op : Operator) : OpR X (inplaceOp op) (rBin (zz X nm ca) (ipF op)) := by
  intro pins s σ H x y v u Q I rx ry hq
  obtain ⟨m, h, a, b, r, ra, rb, p⟩ := hq
  cases op with
  | Add =>
    cases ra with
    | int i =>
      cases rb with
      | int j => exact iop_add pins s σ H _ _ v u Q I rx ry ⟨i, j, rfl, rfl, p.of r (.int _)⟩
      | _ => exact False.elim p
    | str i =>
      cases rb with
      | str j =>
        simp only [ipF] at p
        split at p
        · rename_i hl
          refine iop_add_str pins s σ H _ _ v u Q I rx ry ⟨mk i, mk j, rfl, rfl, by rw [mk_len, mk_len, lim_eq]; exact hl, ?_⟩
          have e : mk i ++ mk j = mk (i ++ j) := by
            show (⟨_⟩ : Str) = ⟨_⟩
            simp [mk]
          rw [e]
          exact p.of r (.str _)
        · exact False.elim p
      | _ => exact False.elim p
    | @ref n a hn =>
      cases rb with
      | @ref n2 b hn2 =>
        simp only [ipF] at p
        split at p
        · rename_i vs ws e1 e2
          obtain ⟨xs, z1, z2⟩ := r.lst hn e1
          obtain ⟨ys, z3, z4⟩ := r.lst hn2 e2
          split at p
          · rename_i hl
            refine iop_ext pins s σ H _ _ v u Q I rx ry ⟨a, b, xs, ys, rfl, rfl, z1, z3, by rw [← z2.len, ← z4.len, lim_eq]; exact hl, ?_⟩
            exact Post.set p r (.ref hn) hn e1 rfl rfl z1 (fun _ z => by cases z) (fun _ _ z => by cases z) ⟨_, upd_same, RVs.mono (ext_lst z1) _ _ (z2.append z4)⟩
          · exact False.elim p
        · exact False.elim p
      | _ => exact False.elim p
    | _ => exact False.elim p
  | Sub =>
    cases ra with
    | int i =>
      cases rb with
      | int j => exact iop_sub pins s σ H _ _ v u Q I rx ry ⟨i, j, rfl, rfl, p.of r (.int _)⟩
      | _ => exact False.elim p
    | _ => exact False.elim p
  | Mult =>
    cases ra with
    | int i =>
      cases rb with
      | int j =>
        simp only [ipF] at p
        split at p
        · rename_i hc; exact iop_mul pins s σ H _ _ v u Q I rx ry ⟨i, j, rfl, rfl, hc, p.of r (.int _)⟩
        · exact False.elim p
      | _ => exact False.elim p
    | _ => exact False.elim p
  | FloorDiv =>
    cases ra with
    | int i =>
      cases rb with
      | int j =>
        simp only [ipF] at p
        split at p
        · rename_i hc; exact iop_fdivW pins s σ H _ _ v u Q I rx ry ⟨i, j, rfl, rfl, hc, p.of r (.int _)⟩
        · exact False.elim p
      | _ => exact False.elim p
    | _ => exact False.elim p
  | Mod =>
    cases ra with
    | int i =>
      cases rb with
      | int j =>
        simp only [ipF] at p
        split at p
        · rename_i hc; exact iop_mod pins s σ H _ _ v u Q I rx ry ⟨i, j, rfl, rfl, hc, p.of r (.int _)⟩
        · exact False.elim p
      | _ => exact False.elim p
    | _ => exact False.elim p
  | LShift =>
    cases ra with
    | int i =>
      cases rb with
      | int j =>
        simp only [ipF] at p
        split at p
        · rename_i hc; exact iop_shl pins s σ H _ _ v u Q I rx ry ⟨i, j, rfl, rfl, hc, p.of r (.int _)⟩
        · exact False.elim p
      | _ => exact False.elim p
    | _ => exact False.elim p
  | RShift =>
    cases ra with
    | int i =>
      cases rb with
      | int j =>
        simp only [ipF] at p
        split at p
        · rename_i hc; exact iop_shr pins s σ H _ _ v u Q I rx ry ⟨i, j, rfl, rfl, hc, p.of r (.int _)⟩
        · exact False.elim p
      | _ => exact False.elim p
    | _ => exact False.elim p
  | BitAnd =>
    cases ra with
    | int i =>
      cases rb with
      | int j => exact iop_and pins s σ H _ _ v u Q I rx ry ⟨i, j, rfl, rfl, p.of r (.int _)⟩
      | _ => exact False.elim p
    | _ => exact False.elim p
  | BitOr =>
    cases ra with
    | int i =>
      cases rb with
      | int j => exact iop_or pins s σ H _ _ v u Q I rx ry ⟨i, j, rfl, rfl, p.of r (.int _)⟩
      | _ => exact False.elim p
    | _ => exact False.elim p
  | BitXor =>
    cases ra with
    | int i =>
      cases rb with
      | int j => exact iop_xor pins s σ H _ _ v u Q I rx ry ⟨i, j, rfl, rfl, p.of r (.int _)⟩
      | _ => exact False.elim p
    | _ => exact False.elim p
  | _ => exact False.elim p
theorem get_S (hu : X.A.units + 1 < cLine) : PGet X (rBin (zz X nm ca) gtF) := by
  intro pins s σ H x y v u Q I rx ry hq
  obtain ⟨m, h, a, b, r, ra, rb, p⟩ := hq
  cases ra with
  | @ref n t hn =>
    simp only [gtF] at p
    split at p
    · rename_i vs e1
      cases rb with
      | int i =>
        simp only [ixL] at p
        cases e : atI vs i with
        | none => rw [e] at p; exact False.elim p
        | some w =>
          rw [e] at p
          obtain ⟨xs, z1, z2⟩ := r.lst hn e1
          obtain ⟨y', z3, z4⟩ := atI_rvs z2 e
          cases rx
          obtain ⟨tk, rfl⟩ := ry
          obtain ⟨its, rr, pl, hz⟩ := I.list (SqL.of z1)
          obtain ⟨j, h1, h2, h3, h4, h5⟩ := atI_get z3
          obtain ⟨w', ew, rw'⟩ := rr.get h2
          have hl := rr.length
          have hnn := line63
          have fin : EP X pins σ Q w' s := ⟨y', H, I, rw', p.of r z4⟩
          by_cases h0 : 0 ≤ i
          · have hj : i.toNat = j := by
              rw [seqIndex_of h0 h5] at h1
              exact Option.some.inj h1
            exact wpAny_getItem_list pl.isList h0 (by omega) (by rw [hj]; simpa using ew) fin
          · have hj : (i + (its.toArray.size : Int)).toNat = j := by
              rw [seqIndex_neg (by omega) h4] at h1
              rw [List.size_toArray, ← hl]
              exact Option.some.inj h1
            exact wpAny_getItem_list_neg pl.isList (by omega) (by rw [List.size_toArray] <;> omega) (by omega) (by rw [hj]; simpa using ew) fin
      | _ => exact False.elim p
    · rename_i kvs e1
      split at p
      · rename_i k ek
        cases e : dget kvs k with
        | none => rw [e] at p; exact False.elim p
        | some w =>
          rw [e] at p
          obtain ⟨kxs, z1, z2⟩ := r.dct hn e1
          obtain ⟨xv, z3, z4⟩ := (z2.get k).1 w e
          have hy := toKy_rv rb ek
          cases rx
          exact d_getItem hu I (.inl ⟨kxs, kyK k, .inl z1, hy, z3.symm⟩) ry fun w' s' I' rw' => ⟨xv, H, I', rw', p.of r z4⟩
      · exact False.elim p
    · exact False.elim p
  | _ => exact False.elim p
end
theorem pure_ipF (op : Operator) (a b : Val) (h : Hs) : (ipF op a b h).pure := by
  unfold ipF
  repeat' first
    | exact pure_ok _ _
    | exact pure_stk
    | split
theorem pure_gtF (a b : Val) (h : Hs) : (gtF a b h).pure := by
  unfold gtF
  repeat' first
    | exact pure_stk
    | exact pure_ixL _ _ _
    | exact pure_ofO _ _
    | split

/-! ### readings of statements -/
def PostO (Z : Ev) (EX : WX) (m : List Addr) (H : Hp) (o : O) (D : Ends) (n : Nat) : Prop := match o with
  | .nx st h => ∀ m' H' σ, Ext m H m' H' → RepS Z m' st h σ H' → D.nx σ H'
  | .rt v h => ∀ m' H' x, Ext m H m' H' → Rep Z m' h H' → RV Z.K m' H' v x → D.rt x H'
  | .bk st h => ∀ m' H' σ, Ext m H m' H' → RepS Z m' st h σ H' → D.bk σ H'
  | .ct st h => ∀ m' H' σ, Ext m H m' H' → RepS Z m' st h σ H' → D.ct σ H'
  | .exc c vs h => ∀ m' H', Ext m H m' H' → Rep Z m' h H' → EX c vs m' h H'
  | .stk => False
def tS (Z : Ev) (EX : WX) (C : Calls) (s : S) : TS := fun D σ H => ∃ m st h, RepS Z m st h σ H ∧ PostO Z EX m H (ex C s st h) D 0
def tSs (Z : Ev) (EX : WX) (C : Calls) (ss : Ss) : TS := fun D σ H => ∃ m st h, RepS Z m st h σ H ∧ PostO Z EX m H (exs C ss st h) D 0
section
variable {Z : Ev} {EX : WX} {C : Calls} {m m1 : List Addr} {h : Hs} {H H1 : Hp} {st : Sl} {σ : St} {D : Ends} {n : Nat}
theorem PostO.mono {o : O} (p : PostO Z EX m H o D n) (e : Ext m H m1 H1) : PostO Z EX m1 H1 o D n := by
  cases o with
  | nx st h => exact fun m' H' σ e' => p m' H' σ (e.trans e')
  | rt v h => exact fun m' H' x e' => p m' H' x (e.trans e')
  | bk st h => exact fun m' H' σ e' => p m' H' σ (e.trans e')
  | ct st h => exact fun m' H' σ e' => p m' H' σ (e.trans e')
  | exc c vs h => exact fun m' H' e' => p m' H' (e.trans e')
  | stk => exact p
theorem PostO.nx {st : Sl} {h : Hs} (p : PostO Z EX m H (.nx st h) D n) (r : RepS Z m st h σ H) : D.nx σ H := p m H σ (Ext.refl _ _) r
theorem oE {e : E} {f : Val → Hs → O} (rs : RepS Z m st h σ H) (p : PostO Z EX m H ((ev C e st h).st f) D n) {K : VK}
    (k : ∀ m1 H1 x v h1, Ext m H m1 H1 → RepS Z m1 st h1 σ H1 → RV Z.K m1 H1 v x → PostO Z EX m1 H1 (f v h1) D n → K x H1) : tE Z EX C e σ H K := by
  refine ⟨m, st, h, rs, ?_⟩
  cases q : ev C e st h with
  | ok v h1 => rw [q] at p; exact fun m' H' ex r x rv => k m' H' x v h1 ex (rs.mono ex r) rv (PostO.mono (o := f v h1) p ex)
  | exc c vs h1 => rw [q] at p; exact p
  | stk => rw [q] at p; exact p
theorem oT {e : E} {f : Bool → Hs → O} (rs : RepS Z m st h σ H) (p : PostO Z EX m H ((et C e st h).st f) D n) {K : Bool → Hp → Prop}
    (k : ∀ m1 H1 b h1, Ext m H m1 H1 → RepS Z m1 st h1 σ H1 → PostO Z EX m1 H1 (f b h1) D n → K b H1) : tT Z EX C e σ H K := by
  refine ⟨m, st, h, rs, ?_⟩
  cases q : et C e st h with
  | ok v h1 => rw [q] at p; exact fun m' H' ex r => k m' H' v h1 ex (rs.mono ex r) (PostO.mono (o := f v h1) p ex)
  | exc c vs h1 => rw [q] at p; exact p
  | stk => rw [q] at p; exact p
theorem oI {i : I} {f : Src → Hs → O} (rs : RepS Z m st h σ H) (p : PostO Z EX m H ((evi C i st h).st f) D n) {K : It → Hp → Prop}
    (k : ∀ m1 H1 J src h1, Ext m H m1 H1 → RepS Z m1 st h1 σ H1 → JR Z m1 H1 src J → PostO Z EX m1 H1 (f src h1) D n → K J H1) : tI Z EX C i σ H K := by
  refine ⟨m, st, h, rs, ?_⟩
  cases q : evi C i st h with
  | ok v h1 => rw [q] at p; exact fun m' H' ex r J jr => k m' H' J v h1 ex (rs.mono ex r) jr (PostO.mono (o := f v h1) p ex)
  | exc c vs h1 => rw [q] at p; exact p
  | stk => rw [q] at p; exact p
/-- an operation -/
theorem oP {r : R Val} {f : Val → Hs → O} {K : VK} (hp : r.pure) (p : PostO Z EX m H (r.st f) D n)
    (k : ∀ m1 H1 x v h1, r = .ok v h1 → Ext m H m1 H1 → Rep Z m1 h1 H1 → RV Z.K m1 H1 v x → PostO Z EX m1 H1 (f v h1) D n → K x H1) : Post Z m H r K := by
  cases r with
  | ok v h1 => exact fun m' H' x e r rv => k m' H' x v h1 rfl e r rv (PostO.mono (o := f v h1) p e)
  | exc c vs h1 => exact absurd rfl (hp c vs h1)
  | stk => exact p
/-- a store's end -/
theorem oH {o : Option Hs} {st : Sl} (p : PostO Z EX m H (nxO o st) D n) (rs : RepS Z m st h σ H) : PostH Z m H o (D.nx σ) := by
  cases o with
  | none => exact p
  | some h1 => exact fun m' H' e r => p m' H' σ e (rs.mono e r)
theorem seq_ok {s : S} {ss : Ss} (p : PostO Z EX m H ((ex C s st h).then (exs C ss)) D n) (hn : n = 0) : PostO Z EX m H (ex C s st h) { D with nx := tSs Z EX C ss D } n := by
  subst hn
  cases q : ex C s st h with
  | nx st1 h1 => rw [q] at p; exact fun m' H' σ' e r => ⟨m', st1, h1, r, PostO.mono (o := exs C ss st1 h1) p e⟩
  | rt v h1 => rw [q] at p; exact p
  | bk _ _ => rw [q] at p; exact p
  | ct _ _ => rw [q] at p; exact p
  | exc _ _ _ => rw [q] at p; exact p
  | stk => rw [q] at p; exact p
end
end MP

set_option Elab.async false
set_option linter.all false
set_option maxRecDepth 100000
set_option maxHeartbeats 4000000
set_option autoImplicit false
/-! MPo: every statement that the check lets through. -/
namespace MP
open PySem PySem.Spec L2
open PyProof.Rows hiding St

def notComp : Expr → Bool
  | .ListComp _ _ _ _ => false
  | .SetComp _ _ _ _ => false
  | .DictComp _ _ _ _ _ => false
  | _ => true
def notTup : Expr → Bool
  | .Tuple _ _ _ => false
  | _ => true
/-- the store of a comprehension's list is made ahead of the block's end -/
def swB (k : Sc) (x : Str) (l vl : Nat) (scope : Scope) : Bool := decide (k.sc.names.lookup x = some .local) && (l == vl) && !(scope.names.any fun (n, k) => n == x && (k == .local || k == .cell))
mutual
def chkS (G : Tab) (k : Sc) : S → Stmt → Bool
  | .expr e, py => (match py with
    | .Expr v _ => chkE G k e v && notComp v
    | _ => false)
  | .asg t e, py => (match t with
    | .nm i => (match py with
      | .Assign [.Name x _] v _ => chkE G k e v && decide (k.N[i]? = some x) && locB k x && notComp v
      | _ => false) || (match e, py with
        | .lc elt tg it cond own, .Assign [.Name x px] (.ListComp ee [⟨tt, ii, ifs, 0⟩] scope pos) _ => decide (k.N[i]? = some x) && swB k x px.line pos.line scope && chkE G k (.lc elt tg it cond own) (.ListComp ee [⟨tt, ii, ifs, 0⟩] scope pos)
        | _, _ => false) || (match py with
      | .Assign [.Name x px] (.ListComp ee gs scope pos) _ => chkE G k e (.ListComp ee gs scope pos) && decide (k.N[i]? = some x) && locB k x && !swB k x px.line pos.line scope
      | _ => false)
    | .tup js => (match py with
      | .Assign [.Tuple es kk tp] v _ => chkE G k e v && chkT k (.tup js) (.Tuple es kk tp) && notTup v
      | _ => false))
  | .fld o f e, py => (match py with
    | .Assign [.Attribute y g _] v _ => decide (G.nm[f]? = some g) && chkE G k o y && chkE G k e v
    | _ => false)
  | .sub o i e, py => (match py with
    | .Assign [.Subscript y z _] v _ => chkE G k o y && chkE G k i z && chkE G k e v && notSlice z
    | _ => false)
  | .aug i op e, py => (match py with
    | .AugAssign (.Name x _) o v _ => decide (op = o) && decide (k.N[i]? = some x) && locB k x && chkE G k e v
    | _ => false)
  | .augF o f op e, py => (match py with
    | .AugAssign (.Attribute y g _) oo v _ => decide (op = oo) && decide (G.nm[f]? = some g) && chkE G k o y && chkE G k e v
    | _ => false)
  | .augS o i op e, py => (match py with
    | .AugAssign (.Subscript y z _) oo v _ => decide (op = oo) && chkE G k o y && chkE G k i z && chkE G k e v && notSlice z
    | _ => false)
  | .del o i, py => (match py with
    | .Delete [.Subscript y z _] _ => chkE G k o y && chkE G k i z
    | _ => false)
  | .ifs c a b, py => (match py with
    | .If t x y _ => chkE G k c t && chkSs G k a x && chkSs G k b y
    | _ => false)
  | .fors t it body, py => (match py with
    | .For tg iter bd [] _ => chkI G k t it iter tg && chkT k t tg && notSet iter && chkSs G k body bd
    | _ => false)
  | .whil c body, py => (match py with
    | .While t bd [] _ => chkE G k c t && chkSs G k body bd
    | _ => false)
  | .ret e, py => (match py with
    | .Return (some v) _ => chkE G k e v
    | _ => false)
  | .retN, py => (match py with
    | .Return none _ => true
    | _ => false)
  | .brk, py => (match py with
    | .Break _ => true
    | _ => false)
  | .cont, py => (match py with
    | .Continue _ => true
    | _ => false)
  | .pass, py => (match py with
    | .Pass _ => true
    | .Expr (.Constant (.str _) _ _) _ => true
    | _ => false)
def chkSs (G : Tab) (k : Sc) : Ss → List Stmt → Bool
  | .nil, py => py.isEmpty
  | .cons s ss, py => (match py with
    | p :: r => chkS G k s p && chkSs G k ss r
    | [] => false)
end
theorem sw_nm {v : Expr} {x : Str} {p : Pos} {l : Nat} {env : Env} (h : notComp v = true) : swapsWith v (some (.Name x p)) l env = pure false := by
  cases v <;> first | rfl | (exact Bool.noConfusion h)
theorem sw_false {elt : Expr} {gs : List Comprehension} {scope : Scope} {pos px : Pos} {x : Str} {l : Nat} {env : Env} {k : Sc} (hs : env.scope = k.sc) (h : swB k x px.line pos.line scope = false) :
    swapsWith (.ListComp elt gs scope pos) (some (.Name x px)) l env = pure false := by
  have e : (env.blockKind == .function && env.kindOf x == some .local && px.line == pos.line && !(scope.names.any fun (n, k) => n == x && (k == .local || k == .cell))) = false := by
    unfold swB at h
    have hk : env.kindOf x = k.sc.names.lookup x := by rw [← hs]; rfl
    rw [hk]
    by_cases hq : k.sc.names.lookup x = some .local
    · rw [decide_eq_true hq, Bool.true_and] at h
      rw [Bool.and_assoc _ (px.line == pos.line) _, h, Bool.and_false]
    · have : (k.sc.names.lookup x == some NameKind.local) = false := by
        cases q : k.sc.names.lookup x with
        | none => rfl
        | some w => cases w <;> first | exact absurd q hq | rfl
      rw [this, Bool.and_false, Bool.false_and, Bool.false_and]
  unfold swapsWith
  show (pure (env.blockKind == .function && env.kindOf x == some .local && px.line == pos.line && !(scope.names.any fun (n, k) => n == x && (k == .local || k == .cell))) : Sem Bool) = _
  rw [e]
theorem sw_none {v : Expr} {l : Nat} {env : Env} (h : notComp v = true) : swapsWith v none l env = pure false := by
  cases v <;> first | rfl | (exact Bool.noConfusion h)
theorem sw_fld {v o : Expr} {f : Str} {p : Pos} {l : Nat} {env : Env} : swapsWith v (some (.Attribute o f p)) l env = pure false := by
  cases v <;> rfl
theorem sw_sub {v o i : Expr} {p : Pos} {l : Nat} {env : Env} : swapsWithSole [.Subscript o i p] v l env = pure false := by
  unfold swapsWithSole
  cases v <;> rfl
theorem sw_tup {v : Expr} {es : List Expr} {kk : Nat} {p : Pos} {l : Nat} {env : Env} : swapsWithSole [.Tuple es kk p] v l env = pure false := by
  unfold swapsWithSole
  cases v <;> rfl
theorem st_tup {v : Expr} {es : List Expr} {kk : Nat} {p : Pos} {env : Env} (h : notTup v = true) : swappedStores [.Tuple es kk p] v env = pure none := by
  cases v <;> first | rfl | (exact Bool.noConfusion h)
theorem st_sub {v o i : Expr} {p : Pos} {env : Env} : swappedStores [.Subscript o i p] v env = pure none := by
  cases v <;> rfl
theorem as_sub {o i : Expr} {pos : Pos} {env : Env} (h : notSlice i = true) (w : Value) : assign (.Subscript o i pos) env w = (do
      let ov ← holding [w] (eval o env)
      let iv ← holding [w, ov] (eval i env)
      standAt pos
      holding [w, ov, iv] (setItem ov iv w)
      release [w, ov, iv] []) := by
  cases i <;> first | rfl | (exact Bool.noConfusion h)
theorem aug_sub {i : Expr} (h : notSlice i = true) (ov iv new : Value) : augStore i ov iv new = (do holding [new, ov, iv] (setItem ov iv new); release [new, ov, iv] []; pure .next) := by
  cases i <;> first | rfl | (exact Bool.noConfusion h)
theorem lookup_mem {g : Str} : ∀ {s : List (Str × V)} {y : V}, s.lookup g = some y → ∃ q ∈ s, q.1 = g
  | [], _, l => by cases l
  | q :: r, y, l => by
    rw [List.lookup_cons] at l
    split at l
    · rename_i e; exact ⟨q, List.mem_cons_self, (eq_of_beq e).symm⟩
    · obtain ⟨q', h1, h2⟩ := lookup_mem l; exact ⟨q', List.mem_cons_of_mem _ h1, h2⟩
structure GoodS (G : Tab) (ca : Nat → Addr) (CX : CXT) (E : XK) (n : Nat) (k : Sc) (X : Cx) : Prop where
  kind : k.sc.kind = .function
  g : Good G ca CX E n k X
  own : PassesOwn (model X.prog X.w) X.A X.env X.xe
section
variable {X : Cx} {G : Tab} {ca : Nat → Addr} {CX : CXT} {EK : XK} {n : Nat} {k : Sc} {EX : WX} {C : Calls}
theorem setFld_ok {Z : Ev} {m : List Addr} {h h' : Hs} {H : Hp} {v : Val} {x : V} {f : Nat} {g : Str} {w : Val} {y : V} {ok : Nat → Nat → Bool} (lk : ∀ c, ok c f = true → NoAttr Z.K (Z.ca c) g)
    (hg : Z.nm[f]? = some g) (r : Rep Z m h H) (rv : RV Z.K m H v x) (rw_ : RV Z.K m H w y) (e : setFld ok v f w h = some h') :
    ∃ a c dx fx, x = .ref a ∧ H a = some (.ins (Z.ca c) dx fx) ∧ Cls Z.K (Z.ca c) ∧ NoAttr Z.K (Z.ca c) g ∧ fx.length < 1000 ∧ clsF v h = some c ∧ ∀ Q, PostH Z m H (some h') Q → Q (upd H a (.ins (Z.ca c) dx (putF g y fx))) := by
  cases rv with
  | @ref n' a hn =>
    cases hb : h[n']? with
    | none => simp [setFld, hb] at e
    | some ob =>
      cases ob with
      | ins c fs =>
        simp only [setFld, hb] at e
        split at e
        · rename_i hc
          cases e
          obtain ⟨dx, fx, z1, z2, z3, z4⟩ := r.ins hn hb
          have hna := lk c hc.2
          refine ⟨a, c, dx, fx, rfl, z1, z3, hna, by rw [z2.len]; exact hc.1, by simp only [clsF, hb], fun Q p => ?_⟩
          refine PostH.set p r hn hb rfl rfl z1 (fun _ z => by cases z) (fun _ _ z => by cases z) ?_
          refine ⟨dx, _, upd_same, FR.put hg r.nm (RV.mono (ext_ins z1) _ _ rw_) (z2.mono (ext_ins z1)), z3, fun q hq => ?_⟩
          rcases putF_mem hq with e | ⟨y', hy, e⟩
          · rw [e]; exact hna
          · rw [← e]; exact z4 y' hy
        · cases e
      | lst _ => simp [setFld, hb] at e
      | frz _ => simp [setFld, hb] at e
      | dct _ => simp [setFld, hb] at e
  | _ => cases e
theorem lk_flds (g : Good G ca CX EK n k X) {f : Nat} {gn : Str} (h : G.nm[f]? = some gn) : ∀ c, (callsN G n).fldok c f = true → NoAttr X.K (ca c) gn := fun c h1 => by
  have h2 : (match G.cls[c]? with | some k => k.flds.contains f | none => false) = true := h1
  cases q : G.cls[c]? with
  | none => rw [q] at h2; cases h2
  | some d => rw [q] at h2; exact (g.lk.cls c d q).2.2.1 f gn h2 h
end
section
variable {G : Tab} {ca : Nat → Addr} {CX : CXT}
mutual
theorem sS : ∀ (s : S) {k : Sc} {n : Nat} {X : Cx} {EK : XK} {py : Stmt}, GoodS G ca CX EK n k X → chkS G k s py = true → PS X py (tS (zz X G.nm ca) (exOf (zz X G.nm ca) EK) (callsN G n) s)
  | .expr e, k, n, X, EK, py, g, h => by
    unfold chkS at h
    split at h
    · simp only [Bool.and_eq_true] at h
      refine ps_w (ps_expr (sE e g.g h.1).1 (sw_none h.2)) fun D σ H q => ?_
      obtain ⟨m, st, h, rs, p⟩ := q
      unfold ex at p
      exact oE rs p fun m1 H1 x v h1 e1 rs1 v1 p1 => p1.nx rs1
    · cases h
  | .asg (.nm i) e, k, n, X, EK, py, g, h => by
    unfold chkS at h
    dsimp only at h
    rcases (Bool.or_eq_true _ _).mp h with h | h
    rcases (Bool.or_eq_true _ _).mp h with h | h
    · split at h
      · simp only [Bool.and_eq_true, decide_eq_true_eq] at h
        obtain ⟨⟨⟨h1, h2⟩, h3⟩, h4⟩ := h
        refine ps_w (ps_set (by rw [g.g.N]; exact g.g.nd) (by rw [g.g.N]; exact h2) (locB_loc h3 g.g.sc) (sE e g.g h1).1 (sw_nm h4) (locB_fn h3 g.g.sc g.g.fn)) fun D σ H q => ?_
        obtain ⟨m, st, h, rs, p⟩ := q
        unfold ex at p
        refine oE rs p fun m1 H1 x v h1 e1 rs1 v1 p1 => ?_
        exact p1.nx (rs1.put i v1)
      · cases h
    · split at h
      · rename_i elt tg it cond own x px ee tt ii ifs scope pos _ _ _
        simp only [Bool.and_eq_true, decide_eq_true_eq] at h
        obtain ⟨⟨h1, h2⟩, h3⟩ := h
        simp only [swB, Bool.and_eq_true, decide_eq_true_eq, Bool.not_eq_true'] at h2
        obtain ⟨⟨h4, h5⟩, h6⟩ := h2
        have hsc : X.env.scope.names.lookup x = some .local := by rw [g.g.sc]; exact h4
        unfold chkE at h3
        simp only [Bool.and_eq_true] at h3
        obtain ⟨⟨⟨⟨⟨⟨q1, q2⟩, q3⟩, q4⟩, q5⟩, q6⟩, q7⟩ := h3
        refine ps_any fun D σ H q => ?_
        refine ⟨_, ps_setLc (wi := tI (zz X G.nm ca) (exOf (zz X G.nm ca) EK) (callsN G n) it) (g := gOf X.K tg) (tt := tEc (zz X G.nm ca) noE (callsN G n) cond) (te := tE (zz X G.nm ca) noE (callsN G n) elt) (own := own) g.g.calm (by rw [g.g.N]; exact g.g.nd) (by rw [g.g.N]; exact h1) hsc
          (sw_true (by rw [g.g.sc]; exact g.kind) hsc h5 h6) (sI it g.g q1) (by rw [g.g.N, g.g.sc]; exact blkOk_by q2)
          (fun s H Ca cl fp => pg_of (k := ⟨k.N, relS _ k.sc, _⟩) g.g.block.N g.g.nd g.g.block.sc g.g.block.fn g.g.calm q5)
          (fun s H Ca cl fp => sC cond g.g.block q6) (fun s H Ca cl fp => (sE elt g.g.block q7).1) (noset_fold q3), ?_⟩
        obtain ⟨m, st, h, rs, p⟩ := q
        unfold ex at p
        refine lc_ok (EX := exOf (zz X G.nm ca) EK) (fun j hj => ?_) ⟨m, st, h, rs, ?_⟩
        · have := List.all_eq_true.mp q4 j hj
          simp only [Bool.and_eq_true, List.contains_iff_mem] at this
          exact this.1
        · have e1 : ∀ r : R Val, PostO (zz X G.nm ca) (exOf (zz X G.nm ca) EK) m H (r.st (asgK (.nm i) st)) D 0 →
              PostG (zz X G.nm ca) (exOf (zz X G.nm ca) EK) m H r (wV (zz X G.nm ca) fun x H1 => gName i x σ H1 D.nx) := fun r p => by
            cases r with
            | ok v h1 => exact fun m' H' e' r' x rv => p m' H' _ e' ((rs.mono e' r').put i rv)
            | exc _ _ _ => exact p
            | stk => exact p
          exact e1 _ p
      · cases h
    · split at h
      · simp only [Bool.and_eq_true, decide_eq_true_eq, Bool.not_eq_true'] at h
        obtain ⟨⟨⟨h1, h2⟩, h3⟩, h4⟩ := h
        refine ps_w (ps_set (by rw [g.g.N]; exact g.g.nd) (by rw [g.g.N]; exact h2) (locB_loc h3 g.g.sc) (sE e g.g h1).1 (sw_false g.g.sc h4) (locB_fn h3 g.g.sc g.g.fn)) fun D σ H q => ?_
        obtain ⟨m, st, h, rs, p⟩ := q
        unfold ex at p
        refine oE rs p fun m1 H1 x v h1 e1 rs1 v1 p1 => ?_
        exact p1.nx (rs1.put i v1)
      · cases h
  | .asg (.tup js) e, k, n, X, EK, py, g, h => by
    unfold chkS at h
    dsimp only at h
    split at h
    · simp only [Bool.and_eq_true] at h
      obtain ⟨⟨h1, h2⟩, h3⟩ := h
      refine ps_w (ps_asg (sE e g.g h1).1 (pg_of g.g.N g.g.nd g.g.sc g.g.fn g.g.calm h2) sw_tup (st_tup h3)) fun D σ H q => ?_
      obtain ⟨m, st, h, rs, p⟩ := q
      unfold ex at p
      refine oE rs p fun m1 H1 x v h1 e1 rs1 v1 p1 => ?_
      unfold asgK at p1
      cases w : setT (.tup js) v st with
      | none => rw [w] at p1; exact False.elim p1
      | some st1 =>
        rw [w] at p1
        exact setT_ok rs1 v1 w fun σ1 rs2 _ => PostO.nx p1 rs2
    · cases h
  | .fld o f e, k, n, X, EK, py, g, h => by
    unfold chkS at h
    split at h
    · simp only [Bool.and_eq_true, decide_eq_true_eq] at h
      obtain ⟨⟨h1, h2⟩, h3⟩ := h
      refine ps_w (ps_fld (sE o g.g h2).1 (sE e g.g h3).1 sw_fld) fun D σ H q => ?_
      obtain ⟨m, st, h, rs, p⟩ := q
      unfold ex at p
      refine oE rs p fun m1 H1 y v h1' e1 rs1 v1 p1 => ?_
      refine oE rs1 p1 fun m2 H2 x w h2' e2 rs2 v2 p2 => ?_
      have p3 := oH p2 rs2
      cases q : setFld (callsN G n).fldok w f v h2' with
      | none => rw [q] at p3; exact False.elim p3
      | some h3' =>
        rw [q] at p3
        obtain ⟨a, c, dx, fx, z1, z2, z3, z4, z5, _, z6⟩ := setFld_ok (Z := zz X G.nm ca) (lk_flds g.g h1) h1 rs2.rep v2 (RV.mono e2 _ _ v1) q
        exact ⟨a, ca c, dx, fx, z1, z2, z3, z4, z5, z6 _ p3⟩
    · cases h
  | .sub o i e, k, n, X, EK, py, g, h => by
    unfold chkS at h
    split at h
    · simp only [Bool.and_eq_true] at h
      obtain ⟨⟨⟨h1, h2⟩, h3⟩, h4⟩ := h
      have hu : X.A.units + 1 < cLine := by have := g.g.hu; omega
      refine ps_w (ps_asg (sE e g.g h3).1 (pg_sub (sE o g.g h1).1 (sE i g.g h2).1 (set_S (nm := G.nm) (ca := ca) hu) (as_sub h4)) sw_sub st_sub) fun D σ H q => ?_
      obtain ⟨m, st, h, rs, p⟩ := q
      unfold ex at p
      refine oE rs p fun m1 H1 y v h1' e1 rs1 v1 p1 => ?_
      refine oE rs1 p1 fun m2 H2 x w h2' e2 rs2 v2 p2 => ?_
      refine oE rs2 p2 fun m3 H3 z u h3' e3 rs3 v3 p3 => ?_
      exact ⟨m3, h3', w, u, v, rs3.rep, RV.mono e3 _ _ v2, v3, RV.mono (e2.trans e3) _ _ v1, oH p3 rs3⟩
    · cases h
  | .aug i op e, k, n, X, EK, py, g, h => by
    unfold chkS at h
    split at h
    · simp only [Bool.and_eq_true, decide_eq_true_eq] at h
      obtain ⟨⟨⟨rfl, h2⟩, h3⟩, h4⟩ := h
      refine ps_w (ps_aug (by rw [g.g.N]; exact g.g.nd) (by rw [g.g.N]; exact h2) (locB_loc h3 g.g.sc) (sE e g.g h4).1 (op_ip (nm := G.nm) (ca := ca) op) (locB_fn h3 g.g.sc g.g.fn)) fun D σ H q => ?_
      obtain ⟨m, st, h, rs, p⟩ := q
      unfold ex at p
      unfold augG at p
      split at p
      · rename_i x hx
        obtain ⟨xv, z1, z2⟩ := rs.sl i x hx
        refine ⟨xv, z1, ?_⟩
        refine oE rs p fun m1 H1 y v h1' e1 rs1 v1 p1 => ?_
        exact ⟨m1, h1', x, v, rs1.rep, RV.mono e1 _ _ z2, v1, oP (pure_ipF _ _ _ _) p1 fun m2 H2 zz' vz h2 _ e2 r2 v2 p2 => p2.nx ((rs1.mono e2 r2).put i v2)⟩
      · exact False.elim p
    · cases h
  | .augF o f op e, k, n, X, EK, py, g, h => by
    unfold chkS at h
    split at h
    · simp only [Bool.and_eq_true, decide_eq_true_eq] at h
      obtain ⟨⟨⟨rfl, h1⟩, h2⟩, h3⟩ := h
      refine ps_w (ps_fldaug (sE o g.g h2).1 (sE e g.g h3).1 (op_ip (nm := G.nm) (ca := ca) op)) fun D σ H q => ?_
      obtain ⟨m, st, h, rs, p⟩ := q
      unfold ex at p
      refine oE rs p fun m1 H1 x w h1' e1 rs1 v1 p1 => ?_
      cases v1 with
      | @ref n' a hn =>
        cases hb : h1'[n']? with
        | none => simp only [afS1, fldF, hb] at p1; exact False.elim p1
        | some ob =>
          cases ob with
          | ins c fs =>
            obtain ⟨dx, fx, z1, z2, z3, z4⟩ := rs1.rep.ins hn hb
            simp only [afS1, fldF, hb] at p1
            cases q : fget fs f with
            | none => rw [q] at p1; exact False.elim p1
            | some w2 =>
              rw [q] at p1
              obtain ⟨y, l, ry⟩ := FR.get h1 rs1.rep.nm z2 q
              obtain ⟨q', hm, eq'⟩ := lookup_mem l
              have na := z4 q' hm
              rw [eq'] at na
              refine ⟨a, ca c, dx, fx, y, rfl, z1, z3, na, l, ?_⟩
              refine oE rs1 p1 fun m2 H2 yv vv h2' e2 rs2 v2 p2 => ?_
              refine ⟨m2, h2', w2, vv, rs2.rep, RV.mono e2 _ _ ry, v2, oP (pure_ipF _ _ _ _) p2 fun m3 H3 zv vz h3' _ e3 r3 v3 p3 => ?_⟩
              unfold afS4 at p3
              split at p3
              · rename_i hcl
                have p4 := oH p3 (rs2.mono e3 r3)
                cases q2 : setFld (callsN G n).fldok (.ref n') f vz h3' with
                | none => rw [q2] at p4; exact False.elim p4
                | some h4' =>
                  rw [q2] at p4
                  have hn3 := (e2.trans e3).pre _ _ hn
                  obtain ⟨a', c', dx', fx', y1, y2, y3, y4, y5, y6, y7⟩ := setFld_ok (Z := zz X G.nm ca) (lk_flds g.g h1) h1 r3 (.ref hn3) v3 q2
                  cases y1
                  rw [y6] at hcl
                  simp only [clsF, hb, Option.some.injEq] at hcl
                  subst hcl
                  exact ⟨dx', fx', y2, y5, y7 _ p4⟩
              · exact False.elim p3
          | lst _ => simp only [afS1, fldF, hb] at p1; exact False.elim p1
          | frz _ => simp only [afS1, fldF, hb] at p1; exact False.elim p1
          | dct _ => simp only [afS1, fldF, hb] at p1; exact False.elim p1
      | _ => exact False.elim p1
    · cases h
  | .augS o i op e, k, n, X, EK, py, g, h => by
    unfold chkS at h
    split at h
    · simp only [Bool.and_eq_true, decide_eq_true_eq] at h
      obtain ⟨⟨⟨⟨rfl, h1⟩, h2⟩, h3⟩, h4⟩ := h
      have hu : X.A.units + 1 < cLine := by have := g.g.hu; omega
      refine ps_w (ps_augS (sE o g.g h1).1 (sE i g.g h2).1 (get_S (nm := G.nm) (ca := ca) hu) (sE e g.g h3).1 (op_ip (nm := G.nm) (ca := ca) op) (set_S (nm := G.nm) (ca := ca) hu) (aug_sub h4)) fun D σ H q => ?_
      obtain ⟨m, st, h, rs, p⟩ := q
      unfold ex at p
      refine oE rs p fun m1 H1 x vx h1' e1 rs1 v1 p1 => ?_
      refine oE rs1 p1 fun m2 H2 y vy h2' e2 rs2 v2 p2 => ?_
      refine ⟨m2, h2', vx, vy, rs2.rep, RV.mono e2 _ _ v1, v2, oP (pure_gtF _ _ _) p2 fun m3 H3 z vz h3' _ e3 r3 v3 p3 => ?_⟩
      refine oE (rs2.mono e3 r3) p3 fun m4 H4 w vw h4' e4 rs4 v4 p4 => ?_
      refine ⟨m4, h4', vz, vw, rs4.rep, RV.mono e4 _ _ v3, v4, oP (pure_ipF _ _ _ _) p4 fun m5 H5 u vu h5' _ e5 r5 v5 p5 => ?_⟩
      exact ⟨m5, h5', vx, vy, vu, r5, RV.mono (e2.trans (e3.trans (e4.trans e5))) _ _ v1, RV.mono (e3.trans (e4.trans e5)) _ _ v2, v5, oH p5 (rs4.mono e5 r5)⟩
    · cases h
  | .del o i, k, n, X, EK, py, g, h => by
    unfold chkS at h
    split at h
    · simp only [Bool.and_eq_true] at h
      refine ps_w (ps_ddel (sE o g.g h.1).1 (sE i g.g h.2).1) fun D σ H q => ?_
      obtain ⟨m, st, h, rs, p⟩ := q
      unfold ex at p
      refine oE rs p fun m1 H1 x vx h1' e1 rs1 v1 p1 => ?_
      refine oE rs1 p1 fun m2 H2 y vy h2' e2 rs2 v2 p2 => ?_
      have p3 := oH p2 rs2
      cases q : delF vx vy h2' with
      | none => rw [q] at p3; exact False.elim p3
      | some h3' =>
        rw [q] at p3
        cases v1 with
        | @ref n' a hn =>
          simp only [delF] at q
          split at q
          · rename_i kvs hb
            split at q
            · rename_i ky ek
              split at q
              · rename_i hs
                cases q
                obtain ⟨kxs, z1, z2⟩ := rs2.rep.dct (e2.pre _ _ hn) hb
                refine ⟨a, kxs, kyK ky, rfl, z1, toKy_rv v2 ek, by rw [z2.isSome]; exact hs, ?_⟩
                exact PostH.set p3 rs2.rep (e2.pre _ _ hn) hb rfl rfl z1 (fun _ z => by cases z) (fun _ _ z => by cases z) ⟨_, upd_same, (z2.del).mono (ext_dct z1)⟩
              · cases q
            · cases q
          · cases q
        | _ => cases q
    · cases h
  | .ifs c a b, k, n, X, EK, py, g, h => by
    unfold chkS at h
    split at h
    · simp only [Bool.and_eq_true] at h
      refine ps_w (ps_if (sE c g.g h.1.1).2.1 (sSs a g h.1.2) (sSs b g h.2)) fun D σ H q => ?_
      obtain ⟨m, st, h, rs, p⟩ := q
      unfold ex at p
      refine oT rs p fun m1 H1 kk h1 e1 rs1 p1 => ?_
      cases kk with
      | true => rw [if_pos rfl]; exact ⟨m1, st, h1, rs1, p1⟩
      | false => rw [if_neg Bool.false_ne_true]; exact ⟨m1, st, h1, rs1, p1⟩
    · cases h
  | .fors t it body, k, n, X, EK, py, g, h => by
    unfold chkS at h
    split at h
    · simp only [Bool.and_eq_true] at h
      obtain ⟨⟨⟨h1, h2⟩, h3⟩, h4⟩ := h
      refine ps_w (ps_for g.own g.g.calm (sI it g.g h1) (pg_of g.g.N g.g.nd g.g.sc g.g.fn g.g.calm h2) (sSs body g h4) (noset_fold h3)) fun D σ H q => ?_
      obtain ⟨m, st, h, rs, p⟩ := q
      unfold ex at p
      refine oI rs p fun m1 H1 J src h1 e1 rs1 jr p1 => ?_
      refine ⟨fun i ms σ' H' => ∃ mm st hh, Ext m1 H1 mm H' ∧ RepS (zz X G.nm ca) mm st hh σ' H' ∧ ms = src.items.length - i ∧ i ≤ src.items.length ∧
        PostO (zz X G.nm ca) (exOf (zz X G.nm ca) EK) mm H' (forV (forK t (exs (callsN G n) body)) src (src.items.drop i) st hh) D 0, ⟨src.items.length, m1, st, h1, Ext.refl _ _, rs1, rfl, Nat.zero_le _, by rw [List.drop_zero]; exact p1⟩, ?_⟩
      rintro i ms σ' H' ⟨mm, st', hh, ex', rr, rfl, hi, pp⟩
      by_cases hlt : i < src.items.length
      · rw [List.drop_eq_getElem_cons hlt] at pp
        unfold forV at pp
        by_cases hok : src.ok hh = true
        · rw [if_pos hok] at pp
          obtain ⟨j1, _⟩ := jr mm hh H' ex' rr.rep hok i
          obtain ⟨j2, j3⟩ := j1 _ (List.getElem?_eq_getElem hlt)
          refine .inr ⟨j2, fun σ'' H'' => ∃ ms', ms' < src.items.length - i ∧ ∃ mm st hh, Ext m1 H1 mm H'' ∧ RepS (zz X G.nm ca) mm st hh σ'' H'' ∧ ms' = src.items.length - (i + 1) ∧ i + 1 ≤ src.items.length ∧
            PostO (zz X G.nm ca) (exOf (zz X G.nm ca) EK) mm H'' (forV (forK t (exs (callsN G n) body)) src (src.items.drop (i + 1)) st hh) D 0, fun σ'' H'' z => z, fun x H'' hy => ?_⟩
          obtain ⟨m2, e2, r2, v2⟩ := j3 x H'' hy
          have p2 := PostO.mono pp e2
          have rs2 := rr.mono e2 r2
          unfold forK at p2
          cases w : setT t src.items[i] st' with
          | none => rw [w] at p2; exact False.elim p2
          | some st1 =>
            rw [w] at p2
            dsimp only at p2
            refine setT_ok rs2 v2 w fun σ1 rs3 _ => ⟨m2, st1, hh, rs3, ?_⟩
            have next : ∀ st2 h2, PostO (zz X G.nm ca) (exOf (zz X G.nm ca) EK) m2 H'' (forV (forK t (exs (callsN G n) body)) src (src.items.drop (i + 1)) st2 h2) D 0 → ∀ m' H3 σ3, Ext m2 H'' m' H3 → RepS (zz X G.nm ca) m' st2 h2 σ3 H3 → ∃ ms', ms' < src.items.length - i ∧ ∃ mm st hh, Ext m1 H1 mm H3 ∧ RepS (zz X G.nm ca) mm st hh σ3 H3 ∧ ms' = src.items.length - (i + 1) ∧ i + 1 ≤ src.items.length ∧
                PostO (zz X G.nm ca) (exOf (zz X G.nm ca) EK) mm H3 (forV (forK t (exs (callsN G n) body)) src (src.items.drop (i + 1)) st hh) D 0 := fun st2 h2 p3 m' H3 σ3 e3 rs4 =>
              ⟨_, by omega, m', st2, h2, ex'.trans (e2.trans e3), rs4, rfl, hlt, PostO.mono p3 e3⟩
            cases r : exs (callsN G n) body st1 hh with
            | nx st2 h2 => rw [r] at p2; exact next st2 h2 p2
            | ct st2 h2 => rw [r] at p2; exact next st2 h2 p2
            | bk st2 h2 => rw [r] at p2; exact p2
            | rt v h2 => rw [r] at p2; exact p2
            | exc c vs h2 => rw [r] at p2; exact p2
            | stk => rw [r] at p2; exact p2
        · rw [if_neg hok] at pp
          exact False.elim pp
      · have hie : i = src.items.length := by omega
        subst hie
        rw [List.drop_length] at pp
        unfold forV at pp
        by_cases hok : src.ok hh = true
        · rw [if_pos hok] at pp
          obtain ⟨_, j2⟩ := jr mm hh H' ex' rr.rep hok src.items.length
          exact .inl ⟨j2 (Nat.le_refl _), PostO.nx pp rr⟩
        · rw [if_neg hok] at pp
          exact False.elim pp
    · cases h
  | .whil c body, k, n, X, EK, py, g, h => by
    unfold chkS at h
    split at h
    · simp only [Bool.and_eq_true] at h
      refine ps_w (ps_while g.own (sE c g.g h.1).2.1 (sSs body g h.2)) fun D σ H q => ?_
      obtain ⟨m, st, h, rs, p⟩ := q
      unfold ex at p
      refine ⟨fun fu σ' H' => ∃ mm st hh, RepS (zz X G.nm ca) mm st hh σ' H' ∧ PostO (zz X G.nm ca) (exOf (zz X G.nm ca) EK) mm H' (whV (et (callsN G n) c) (exs (callsN G n) body) fu st hh) D 0, ⟨fuel, m, st, h, rs, p⟩, ?_⟩
      rintro fu σ' H' ⟨mm, st', hh, rr, pp⟩
      cases fu with
      | zero => exact False.elim pp
      | succ fu =>
        unfold whV at pp
        refine oT rr pp fun m1 H1 kk h1 e1 rs1 p1 => ?_
        cases kk with
        | false => rw [if_neg Bool.false_ne_true]; exact p1.nx rs1
        | true =>
          rw [if_pos rfl]
          refine ⟨fun σ'' H'' => ∃ fu', fu' < fu + 1 ∧ ∃ mm st hh, RepS (zz X G.nm ca) mm st hh σ'' H'' ∧ PostO (zz X G.nm ca) (exOf (zz X G.nm ca) EK) mm H'' (whV (et (callsN G n) c) (exs (callsN G n) body) fu' st hh) D 0, fun σ'' H'' z => z, m1, st', h1, rs1, ?_⟩
          cases r : exs (callsN G n) body st' h1 with
          | nx st2 h2 => rw [r] at p1; exact fun m' H3 σ3 e3 rs4 => ⟨fu, Nat.lt_succ_self _, m', st2, h2, rs4, PostO.mono p1 e3⟩
          | ct st2 h2 => rw [r] at p1; exact fun m' H3 σ3 e3 rs4 => ⟨fu, Nat.lt_succ_self _, m', st2, h2, rs4, PostO.mono p1 e3⟩
          | bk st2 h2 => rw [r] at p1; exact p1
          | rt v h2 => rw [r] at p1; exact p1
          | exc cc vs h2 => rw [r] at p1; exact p1
          | stk => rw [r] at p1; exact p1
    · cases h
  | .ret e, k, n, X, EK, py, g, h => by
    unfold chkS at h
    split at h
    · refine ps_w (ps_ret (sE e g.g h).1) fun D σ H q => ?_
      obtain ⟨m, st, h, rs, p⟩ := q
      unfold ex at p
      refine oE rs p fun m1 H1 x v h1 e1 rs1 v1 p1 => ?_
      exact p1 m1 H1 x (Ext.refl _ _) rs1.rep v1
    · cases h
  | .retN, k, n, X, EK, py, g, h => by
    unfold chkS at h
    split at h
    · refine ps_w ps_retN fun D σ H q => ?_
      obtain ⟨m, st, h, rs, p⟩ := q
      exact p m H _ (Ext.refl _ _) rs.rep .non
    · cases h
  | .brk, k, n, X, EK, py, g, h => by
    unfold chkS at h
    split at h
    · refine ps_w ps_break fun D σ H q => ?_
      obtain ⟨m, st, h, rs, p⟩ := q
      exact p m H σ (Ext.refl _ _) rs
    · cases h
  | .cont, k, n, X, EK, py, g, h => by
    unfold chkS at h
    split at h
    · refine ps_w ps_continue fun D σ H q => ?_
      obtain ⟨m, st, h, rs, p⟩ := q
      exact p m H σ (Ext.refl _ _) rs
    · cases h
  | .pass, k, n, X, EK, py, g, h => by
    unfold chkS at h
    split at h
    · refine ps_w ps_pass fun D σ H q => ?_
      obtain ⟨m, st, h, rs, p⟩ := q
      exact p m H σ (Ext.refl _ _) rs
    · refine ps_w (ps_expr pe_str rfl) fun D σ H q => ?_
      obtain ⟨m, st, h, rs, p⟩ := q
      exact p m H σ (Ext.refl _ _) rs
    · cases h
theorem sSs : ∀ (ss : Ss) {k : Sc} {n : Nat} {X : Cx} {EK : XK} {py : List Stmt}, GoodS G ca CX EK n k X → chkSs G k ss py = true → PSs X py (tSs (zz X G.nm ca) (exOf (zz X G.nm ca) EK) (callsN G n) ss)
  | .nil, k, n, X, EK, py, g, h => by
    unfold chkSs at h
    cases py with
    | nil =>
      refine pss_w pss_nil fun D σ H q => ?_
      obtain ⟨m, st, h, rs, p⟩ := q
      exact p m H σ (Ext.refl _ _) rs
    | cons _ _ => cases h
  | .cons s ss, k, n, X, EK, py, g, h => by
    unfold chkSs at h
    cases py with
    | nil => cases h
    | cons p r =>
      simp only [Bool.and_eq_true] at h
      refine pss_w (pss_cons (sS s g h.1) (sSs ss g h.2)) fun D σ H q => ?_
      obtain ⟨m, st, h, rs, p⟩ := q
      unfold exs at p
      exact ⟨m, st, h, rs, seq_ok p rfl⟩
end
end
end MP

set_option Elab.async false
set_option linter.all false
set_option maxRecDepth 100000
set_option maxHeartbeats 4000000
set_option autoImplicit false
/-! MPp: every def of a checked table keeps its promise; the law. -/
namespace MP
open PySem PySem.Spec L2
open PyProof.Rows hiding St

def noCX : CXT := fun _ _ _ _ _ _ => False
/-! ### the static check of a def -/
def bOk (d : Fn) (e : He.DefD) : Prop := ∀ (kV doc pm : Value) (an : Option Addr) (cdv ct : Value) (us : List Value), us.length = d.ps.length → bindArgs (PySem.W.fnOf e.name e.qual e.params e.body e.scope .none kV doc pm an cdv ct) ⟨us, []⟩ = pure (d.ps.zip us)
inductive Bs : List Fn → List He.DefD → Prop
  | nil : Bs [] []
  | cons {d : Fn} {e : He.DefD} {ds : List Fn} {es : List He.DefD} : bOk d e → Bs ds es → Bs (d :: ds) (e :: es)
def chkF (G : Tab) (d : Fn) (e : He.DefD) : Bool := e.dfl.isEmpty && e.kwd.isEmpty && (match e.scope.kind with | .function => true | _ => false) && !e.scope.isCoroutine && !e.scope.isGenerator && decide d.nms.Nodup && decide (d.nms.take d.ps.length = d.ps) &&
  (d.ps.all fun x => decide (e.scope.names.lookup x = some .local) || decide (e.scope.names.lookup x = some .cell)) && (e.scope.names.all fun y => !decide (y.2 = .free)) && chkSs G ⟨d.nms, e.scope, fun _ => true⟩ d.body e.body &&
  (match d.cls with
    | none => decide (e.at_ = (d.name, none))
    | some c => decide (e.at_ = (c, some d.name)))
def chkFs (G : Tab) : List Fn → List He.DefD → Bool
  | [], [] => true
  | d :: ds, e :: es => chkF G d e && chkFs G ds es
  | _, _ => false
/-- a class's methods stand where the table says -/
def chkC1 (G : Tab) (c : Cl) : Bool := (match c.init with
    | none => true
    | some i => match G.fns[i]? with
      | some d => decide (d.cls = some c.name) && decide (d.name = ("__init__" : Str))
      | none => false) &&
  c.meths.all fun q => match G.fns[q.2]?, G.nm[q.1]? with
    | some d, some g => decide (d.cls = some c.name) && decide (d.name = g)
    | _, _ => false
def chkTab (G : Tab) (ds : List He.DefD) : Bool := decide G.nm.Nodup && chkFs G G.fns ds && G.cls.all (chkC1 G)
/-! ### the facts that the head is to show -/
def clFa (G : Tab) (c : Cl) : List He.Fa := [.glo c.name, .cls c.name] ++ (if c.init.isSome then [.mkr c.name] else []) ++ c.flds.map (fun f => .noat c.name (G.nm.getD f "")) ++ c.meths.map fun q => .meth c.name (G.nm.getD q.1 "")
def fasOf (G : Tab) : List He.Fa := (G.fns.filter fun d => d.cls.isNone).map (fun d => .glo d.name) ++ G.free.map .free ++ G.cls.flatMap (clFa G)
/-- a written value of the module -/
def gvB (K : PySem.W.Frag) : Nat → Val → Value → Bool
  | 0, _, _ => false
  | n + 1, v, u => match v, u with
    | .non, .none => true
    | .bl b, .bool c => b == c
    | .int i, .int j _ => decide (i = j)
    | .str s, .str z _ => decide (mk s = z)
    | .tup vs, .ref a => (match K.lookup a with
      | some ⟨.type c, none, .seq its _, _⟩ => decide (c = "tuple") && decide (its.size ≤ sizeLine) && decide (vs.length = its.toList.length) && (vs.zip its.toList).all fun q => gvB K n q.1 q.2
      | _ => false)
    | _, _ => false
def glob1 (K : PySem.W.Frag) (q : Str × Val) : Bool := match PySem.W.nsIn K mainGlobals q.1 with
  | some (some u) => gvB K 6 q.2 u
  | _ => false
def globsB (G : Tab) (K : PySem.W.Frag) : Bool := G.globs.all (glob1 K)
abbrev AlM : Type := He.AlD × Bool
def obsM (n : Nat) (G : Tab) (ds : List He.DefD) (g : Addr → Option Obj) : AlM := (He.obsD (fasOf G) ds (He.frG g (He.asD g n)), globsB G (He.frG g (He.asD g n)))
def hookM (n : Nat) (G : Tab) (ds : List He.DefD) : PySem.W.Hook where
  α := AlM
  obs := fun s => obsM n G ds s.heap.get?
  val := fun _ => (He.valD ds, true)
  says := fun _ h => ∃ K : PySem.W.Frag, K.In h ∧ He.SaysD (fasOf G) ds K ∧ globsB G K = true
  of := fun _ _ e => ⟨_, He.frG_in, congrArg Prod.fst e, congrArg Prod.snd e⟩
  keeps := fun _ _ _ ⟨K, hK, c⟩ k => ⟨K, PySem.W.Frag.In.keeps hK k, c⟩
theorem obsM_eq {n : Nat} {G : Tab} {ds : List He.DefD} {g : Addr → Option Obj} {s : Shared} (h : ∀ a, g a = s.heap.get? a) : obsM n G ds g = (hookM n G ds).obs s := by
  have e : g = s.heap.get? := funext h
  rw [e] <;> rfl
/-! ### written values -/
def absG : Value → V
  | .none => .non
  | .bool b => .bl b
  | .int i _ => .int i
  | .str z _ => .str z
  | .ref a => .ref a
  | _ => .non
theorem gv_ok {K : PySem.W.Frag} : ∀ (n : Nat) (v : Val) (u : Value), gvB K n v u = true → RelV (absG u) u ∧ (∀ m H, RV K m H v (absG u)) ∧ ∀ vs, v = .tup vs → ∃ a o, absG u = .ref a ∧ K.lookup a = some o ∧ o.cls = .type "tuple" ∧ o.dict = none
  | 0, _, _, h => by cases h
  | n + 1, v, u, h => by
    unfold gvB at h
    split at h
    · exact ⟨rfl, fun _ _ => .non, fun _ e => by cases e⟩
    · rename_i b c
      obtain rfl : b = c := eq_of_beq h
      exact ⟨rfl, fun _ _ => .bl _, fun _ e => by cases e⟩
    · rename_i i j t
      obtain rfl : i = j := of_decide_eq_true h
      exact ⟨⟨_, rfl⟩, fun _ _ => .int _, fun _ e => by cases e⟩
    · rename_i s z t
      obtain rfl : mk s = z := of_decide_eq_true h
      exact ⟨⟨_, rfl⟩, fun _ _ => .str _, fun _ e => by cases e⟩
    · rename_i vs a
      split at h
      · rename_i c its k sl q
        simp only [Bool.and_eq_true, decide_eq_true_eq] at h
        obtain ⟨⟨⟨h1, h2⟩, h3⟩, h4⟩ := h
        have all : ∀ (vs : List Val) (us : List Value), vs.length = us.length → (vs.zip us).all (fun q => gvB K n q.1 q.2) = true → Vals (us.map absG) us ∧ ∀ m H, RVs K m H vs (us.map absG) := by
          intro vs
          induction vs with
          | nil =>
            intro us hl _
            cases us with
            | nil => exact ⟨.nil, fun _ _ => .nil⟩
            | cons _ _ => cases hl
          | cons v vs ih =>
            intro us hl ha
            cases us with
            | nil => cases hl
            | cons u us =>
              rw [List.zip_cons_cons, List.all_cons, Bool.and_eq_true] at ha
              obtain ⟨i1, i2, _⟩ := gv_ok n v u ha.1
              obtain ⟨i3, i4⟩ := ih us (by simpa using hl) ha.2
              exact ⟨.cons i1 i3, fun m H => .cons (i2 m H) (i4 m H)⟩
        obtain ⟨a1, a2⟩ := all vs its.toList h3 h4
        refine ⟨rfl, fun m H => .tup (.inr ⟨_, its, k, q, congrArg Value.type h1, rfl, h2, a1⟩) (a2 m H), fun _ _ => ⟨a, _, rfl, q, congrArg Value.type h1, rfl⟩⟩
      · cases h
    · cases h
/-! ### what stands -/
structure Has (G : Tab) (ca : Nat → Addr) (fad : Nat → Addr) (K : PySem.W.Frag) (mg : Str → Option Value) : Prop where
  nd : G.nm.Nodup
  free : ∀ x : Str, G.free.contains x = true → mg x = none
  glob : ∀ (i : Nat) (g : Str) (v : Val), G.globs[i]? = some (g, v) → ∃ x u, mg g = some u ∧ RelV x u ∧ (∀ m H, RV K m H v x) ∧ ∀ vs, v = .tup vs → ∃ a o, x = .ref a ∧ K.lookup a = some o ∧ o.cls = .type "tuple" ∧ o.dict = none
  fns : ∀ (f : Nat) (d : Fn), G.fns[f]? = some d → (∃ (x qual : Str) (params : Arguments) (body : List Stmt) (scope : Scope) (fd : FuncData), FunD K x qual params body scope [] [] (fad f) fd ∧ FnScope d.nms d.ps scope ∧
    chkSs G ⟨d.nms, scope, fun _ => true⟩ d.body body = true ∧ ∀ (kV doc pm : Value) (an : Option Addr) (cdv ct : Value) (us : List Value), us.length = d.ps.length → bindArgs (PySem.W.fnOf x qual params body scope .none kV doc pm an cdv ct) ⟨us, []⟩ = pure (d.ps.zip us)) ∧
    (d.cls = none → mg d.name = some (.ref (fad f)))
  cls : ∀ (c : Nat) (d : Cl), G.cls[c]? = some d → mg d.name = some (.ref (ca c)) ∧ Cls K (ca c) ∧ (∀ (f : Nat) (g : Str), d.flds.contains f = true → G.nm[f]? = some g → NoAttr K (ca c) g) ∧
    (∀ (i : Nat), d.init = some i → ∃ di, G.fns[i]? = some di ∧ Mk K (ca c) (fad i)) ∧
    (∀ (m i : Nat) (g : Str), d.meths.lookup m = some i → G.nm[m]? = some g → ∃ di, G.fns[i]? = some di ∧ Meth K (ca c) g (fad i))
section
variable {G : Tab} {ca fad : Nat → Addr} {P : Program} {w : World} {K : PySem.W.Frag} {mg : Str → Option Value} {base : Heap}
def Lev (G : Tab) (ca fad : Nat → Addr) (P : Program) (w : World) (K : PySem.W.Frag) (mg : Str → Option Value) (base : Heap) (k : Nat) (f : Nat → List Val → Hs → R Val) : Prop := ∀ (i : Nat) (d : Fn), G.fns[i]? = some d →
  ∃ fd, (∃ oc od osl, K.lookup (fad i) = some ⟨oc, od, .func fd, osl⟩) ∧ PySem.W.keepIn K (.ref (fad i)) = true ∧ Binds K fd d.ps [] ∧ FnOk P w K mg base noCX k (fad i) fd d.ps (spF ⟨K, G.nm, ca⟩ d.ps.length (f i))
theorem fd_at {x qual : Str} {params : Arguments} {body : List Stmt} {scope : Scope} {f : Addr} {fd : FuncData} (F : FunD K x qual params body scope [] [] f fd) : ∃ oc od osl, K.lookup f = some ⟨oc, od, .func fd, osl⟩ := by
  obtain ⟨oc, od, dV, kV, doc, pm, an, cdv, ct, osl, e, lk, _⟩ := F.ex
  exact ⟨oc, od, osl, lk⟩
theorem lev_stk (hs : Has G ca fad K mg) (k : Nat) : Lev G ca fad P w K mg base k (fun _ _ _ => .stk) := by
  intro i d hd
  obtain ⟨⟨x, qual, params, body, scope, fd, F, S, _, hb⟩, _⟩ := hs.fns i d hd
  refine ⟨fd, fd_at F, F.kp, F.bindsN hb, ⟨fun vs H Q E h => ?_, fun A outer s H args us vs Q E _ _ _ _ h => ?_⟩⟩
  · obtain ⟨m, h, as, r, rv, hl, _⟩ := h
    rw [← rv.len]
    exact hl
  · obtain ⟨m, h, as, r, rv, hl, p⟩ := h
    exact False.elim p
theorem link_of (hs : Has G ca fad K mg) {n : Nat} (h1 : Lev G ca fad P w K mg base (n + 1) (callN G n)) (h2 : Lev G ca fad P w K mg base n (callsN G n).i) : Link G ca noCX n P w K mg base := by
  refine ⟨hs.nd, hs.free, hs.glob, fun f d hd hc => ?_, fun c d hd => ?_, fun _ _ _ _ _ h => h⟩
  · obtain ⟨fd, _, kp, b, F⟩ := h1 f d hd
    exact ⟨fad f, fd, (hs.fns f d hd).2 hc, kp, b, F⟩
  · obtain ⟨c1, c2, c3, c4, c5⟩ := hs.cls c d hd
    refine ⟨c1, c2, c3, fun i hi => ?_, fun m i g hm hg => ?_⟩
    · obtain ⟨di, q, M⟩ := c4 i hi
      obtain ⟨fd, _, kp, b, F⟩ := h2 i di q
      exact ⟨fad i, fd, di, q, M, b, F⟩
    · obtain ⟨di, q, M⟩ := c5 m i g hm hg
      obtain ⟨fd, _, kp, b, F⟩ := h1 i di q
      exact ⟨fad i, fd, di, q, M, b, F⟩
theorem startS_rep {Z : Ev} {m : List Addr} {h : Hs} {H : Hp} {as : List Val} {vs : List V} {N : List Str} (r : Rep Z m h H) (rv : RVs Z.K m H as vs) : RepS Z m (startS N.length as) h (L2.start N vs) H := by
  refine ⟨r, ?_, fun i v q => ?_⟩
  · simp [startS, L2.start, rv.len]
  · unfold startS at q
    unfold L2.start
    by_cases hi : i < as.length
    · rw [List.getElem?_append_left (by simpa using hi)] at q
      rw [List.getElem?_append_left (by rw [List.length_map, ← rv.len]; exact hi)]
      rw [List.getElem?_map] at q ⊢
      obtain ⟨v', q1, q2⟩ := Option.map_eq_some_iff.mp q
      cases q2
      obtain ⟨x, z1, z2⟩ := rv.get q1
      exact ⟨x, by rw [z1]; rfl, z2⟩
    · rw [List.getElem?_append_right (by simpa using hi)] at q
      have := List.mem_of_getElem? q
      rw [List.mem_replicate] at this
      cases this.2
theorem lev_succ (hs : Has G ca fad K mg) {n : Nat} (h1 : Lev G ca fad P w K mg base (n + 1) (callN G n)) (h2 : Lev G ca fad P w K mg base n (callsN G n).i) : Lev G ca fad P w K mg base (n + 2) (callN G (n + 1)) := by
  have lk := link_of hs h1 h2
  intro f d hd
  obtain ⟨⟨x, qual, params, body, scope, fd, F, S, hc, hb⟩, _⟩ := hs.fns f d hd
  refine ⟨fd, fd_at F, F.kp, F.bindsN hb, F.ok S (fun vs H Q E h => ?_) fun cdv A outer s H vs Q E hr h => ?_⟩
  · obtain ⟨m, h, as, r, rv, hl, _⟩ := h
    rw [← rv.len]
    exact hl
  · obtain ⟨m, h, as, r, rv, hl, p⟩ := h
    refine ⟨tSs ⟨K, G.nm, ca⟩ (exOf ⟨K, G.nm, ca⟩ E) (callsN G n) d.body, PSs.nox ?_, ?_⟩
    · exact sSs (X := (cxOf noCX P w K mg base d.nms qual scope (fad f) cdv A outer s H E).nox) (EK := E) (k := ⟨d.nms, scope, fun _ => true⟩) d.body
        ⟨S.kind, ⟨rfl, S.nd, rfl, fun _ _ => rfl, rfl, hr, lk, fun _ _ _ _ _ _ _ z => z.elim⟩, PassesOwn.never⟩ hc
    · rw [callN_eq hd, run, if_pos hl] at p
      refine ⟨m, startS d.nms.length as, h, startS_rep r rv, ?_⟩
      cases q : exs (callsN G n) d.body (startS d.nms.length as) h with
      | nx st' h' => rw [q] at p; exact fun m' H' σ e r' => p m' H' e r'.rep _ .non
      | rt v h' => rw [q] at p; exact fun m' H' x e r' rv' => p m' H' e r' x rv'
      | bk _ _ => rw [q] at p; exact (show False from p).elim
      | ct _ _ => rw [q] at p; exact (show False from p).elim
      | exc c vs' h' => rw [q] at p; exact p
      | stk => rw [q] at p; exact p
theorem levs (hs : Has G ca fad K mg) : ∀ n : Nat, Lev G ca fad P w K mg base (n + 1) (callN G n) ∧ Lev G ca fad P w K mg base n (callsN G n).i
  | 0 => ⟨lev_stk hs 1, lev_stk hs 0⟩
  | n + 1 => ⟨lev_succ hs (levs hs n).1 (levs hs n).2, (levs hs n).1⟩
end
/-! ### from the head -/
def caOf (G : Tab) (K : PySem.W.Frag) (c : Nat) : Addr := He.ga K ((G.cls[c]?).elim "" (·.name))
def fadOf (ds : List He.DefD) (K : PySem.W.Frag) (f : Nat) : Addr := He.fAd K ((ds[f]?).elim ("", none) (·.at_))
section
variable {G : Tab} {ds : List He.DefD} {K : PySem.W.Frag} {h : Heap} {mg : Str → Option Value}
theorem chkFs_at : ∀ {fs : List Fn} {es : List He.DefD} {i : Nat} {d : Fn}, chkFs G fs es = true → Bs fs es → fs[i]? = some d → ∃ e, es[i]? = some e ∧ chkF G d e = true ∧ bOk d e
  | [], _, _, _, _, _, q => by cases q
  | f :: fs, [], _, _, c, _, _ => by cases c
  | f :: fs, e :: es, 0, d, c, b, q => by
    cases b with
    | cons b1 b2 =>
      cases q
      exact ⟨e, rfl, (Bool.and_eq_true_iff.mp c).1, b1⟩
  | f :: fs, e :: es, i + 1, d, c, b, q => by
    cases b with
    | cons b1 b2 =>
      obtain ⟨e', z1, z2, z3⟩ := chkFs_at (i := i) (Bool.and_eq_true_iff.mp c).2 b2 (by simpa using q)
      exact ⟨e', by simpa using z1, z2, z3⟩
theorem getD_of {f : Nat} {g : Str} (e : G.nm[f]? = some g) : G.nm.getD f "" = g := by
  rw [List.getD_eq_getElem?_getD, e]
  rfl
theorem lookup_mem2 {m i : Nat} : ∀ {l : List (Nat × Nat)}, l.lookup m = some i → (m, i) ∈ l
  | [], e => by cases e
  | q :: r, e => by
    rw [List.lookup_cons] at e
    split at e
    · rename_i z
      cases e
      have : m = q.1 := eq_of_beq z
      rw [this]
      exact List.mem_cons_self
    · exact List.mem_cons_of_mem _ (lookup_mem2 e)
theorem has_of (ct : chkTab G ds = true) (bs : Bs G.fns ds) (X : K.In h) (N : h.Ns mainGlobals mg) (c : He.SaysD (fasOf G) ds K) (gl : globsB G K = true) : Has G (caOf G K) (fadOf ds K) K mg := by
  simp only [chkTab, Bool.and_eq_true, decide_eq_true_eq] at ct
  obtain ⟨⟨c1, c2⟩, c3⟩ := ct
  have fact : ∀ f ∈ fasOf G, f.ok K = true := fun f hf => by
    obtain ⟨i, hi⟩ := List.mem_iff_getElem?.mp hf
    exact c.fact i hi
  have cfact : ∀ (i : Nat) (d : Cl), G.cls[i]? = some d → ∀ f ∈ clFa G d, f.ok K = true := fun i d hd f hf => fact f (by
    unfold fasOf
    exact List.mem_append_right _ (List.mem_flatMap.mpr ⟨d, List.mem_of_getElem? hd, hf⟩))
  refine ⟨c1, fun x hx => ?_, fun i g v hi => ?_, fun f d hd => ?_, fun i d hd => ?_⟩
  · refine He.free_ok X N (fact (.free x) ?_)
    unfold fasOf
    refine List.mem_append_left _ (List.mem_append_right _ (List.mem_map.mpr ⟨x, ?_, rfl⟩))
    simpa using hx
  · have q := List.all_eq_true.mp gl (g, v) (List.mem_of_getElem? hi)
    unfold glob1 at q
    split at q
    · rename_i u hu
      obtain ⟨z1, z2, z3⟩ := gv_ok 6 v u q
      exact ⟨absG u, u, PySem.W.mg_of X N hu, z1, z2, z3⟩
    · cases q
  · obtain ⟨e, z1, z2, z3⟩ := chkFs_at c2 bs hd
    obtain ⟨fd, F⟩ := c.def_ f z1
    simp only [chkF, Bool.and_eq_true, decide_eq_true_eq, List.isEmpty_iff, Bool.not_eq_true'] at z2
    obtain ⟨⟨⟨⟨⟨⟨⟨⟨⟨⟨y1, y2⟩, y3⟩, y4⟩, y5⟩, y6⟩, y7⟩, y8⟩, y9⟩, y10⟩, y11⟩ := z2
    have ef : fadOf ds K f = He.fAd K e.at_ := by unfold fadOf; rw [z1]; rfl
    refine ⟨⟨e.name, e.qual, e.params, e.body, e.scope, fd, ?_, ⟨?_, y4, y5, y6, y7, fun x hx => ?_, fun y hy => ?_⟩, y10, z3⟩, fun hc => ?_⟩
    · rw [ef]
      have e1 : e.dvs K = [] := by unfold He.DefD.dvs; rw [y1]; rfl
      have e2 : e.kws K = [] := by unfold He.DefD.kws; rw [y2]; rfl
      rw [e1, e2] at F
      exact F
    · split at y3
      · assumption
      · cases y3
    · have := List.all_eq_true.mp y8 x hx
      simpa using this
    · have := List.all_eq_true.mp y9 y hy
      simpa using this
    · rw [hc] at y11
      have y12 : e.at_ = (d.name, none) := by simpa using y11
      rw [ef, y12]
      refine He.glo_ok X N (fact (.glo d.name) ?_)
      unfold fasOf
      refine List.mem_append_left _ (List.mem_append_left _ (List.mem_map.mpr ⟨d, List.mem_filter.mpr ⟨List.mem_of_getElem? hd, by rw [hc]; rfl⟩, rfl⟩))
  · have ca : caOf G K i = He.ga K d.name := by unfold caOf; rw [hd]; rfl
    have cf := cfact i d hd
    have cc := List.all_eq_true.mp c3 d (List.mem_of_getElem? hd)
    simp only [chkC1, Bool.and_eq_true] at cc
    have at_of : ∀ (j : Nat) (dj : Fn), G.fns[j]? = some dj → dj.cls = some d.name → fadOf ds K j = He.ma K (He.ga K d.name) dj.name := fun j dj hj hc => by
      obtain ⟨e, z1, z2, z3⟩ := chkFs_at c2 bs hj
      simp only [chkF, Bool.and_eq_true] at z2
      have y11 := z2.2
      rw [hc] at y11
      have y12 : e.at_ = (d.name, some dj.name) := by simpa using y11
      unfold fadOf
      rw [z1]
      show He.fAd K e.at_ = _
      rw [y12]
      rfl
    rw [ca]
    refine ⟨He.glo_ok X N (cf _ (by simp [clFa])), He.cls_ok (cf _ (by simp [clFa])), fun f g hf hg => ?_, fun j hj => ?_, fun m j g hm hg => ?_⟩
    · refine He.noat_ok (cf _ ?_)
      unfold clFa
      refine List.mem_append_left _ (List.mem_append_right _ (List.mem_map.mpr ⟨f, by simpa using hf, ?_⟩))
      rw [getD_of hg]
    · have c4 := cc.1
      rw [hj] at c4
      dsimp only at c4
      cases q : G.fns[j]? with
      | none => rw [q] at c4; cases c4
      | some dj =>
        rw [q] at c4
        simp only [Bool.and_eq_true, decide_eq_true_eq] at c4
        refine ⟨dj, rfl, ?_⟩
        rw [at_of j dj q c4.1, c4.2]
        refine He.mkr_ok (cf _ ?_)
        unfold clFa
        refine List.mem_append_left _ (List.mem_append_left _ (List.mem_append_right _ ?_))
        rw [hj]
        exact List.mem_cons_self
    · have hmem := lookup_mem2 hm
      have c5 := List.all_eq_true.mp cc.2 (m, j) hmem
      dsimp only at c5
      rw [hg] at c5
      cases q : G.fns[j]? with
      | none => rw [q] at c5; cases c5
      | some dj =>
        rw [q] at c5
        simp only [Bool.and_eq_true, decide_eq_true_eq] at c5
        refine ⟨dj, rfl, ?_⟩
        rw [at_of j dj q c5.1, c5.2]
        refine He.meth_ok (cf _ ?_)
        unfold clFa
        refine List.mem_append_right _ (List.mem_map.mpr ⟨(m, j), hmem, ?_⟩)
        dsimp only
        rw [getD_of hg]
end
/-! ### the law -/
theorem walk_mp {l : PySem.W.OpenLaw} {n k : Nat} {q : Program} {loose : List Str} {XP : (Str → Option Value) → Heap → Prop} {d : DefRec} {x : Str} {G : Tab} {ds : List He.DefD} {hn : Nat} {f0 : Nat} {d0 : Fn}
    (hl : l.most = some n) (hn2 : n ≤ sizeLine) (hdf : d.params.defaults = []) (hr : Room (k + 1) callerA) (hf0 : G.fns[f0]? = some d0) (h0c : d0.cls = none) (h0n : d.name = d0.name) (h0p : d0.ps = [x])
    (ct : chkTab G ds = true) (bs : Bs G.fns ds)
    (end_ : ∀ ns : List Int, ns.length ≤ n → (∀ z ∈ ns, Builtin.Int.intBits z ≤ 1048576) → ∃ h', callN G k f0 [.ref 0] [.frz (ns.map Val.int)] = .ok (.bl true) h') :
    PySem.W.WalkO q loose XP (hookM hn G ds).says l.row.toRowW d [] (fun f vs => PySem.call f vs) := by
  refine Att.attach_callB hl hdf fun w s₀ s₁ mg mb fa o pm cd doc a vs ns Gr Y ho hd hcd hmg hobj hints hlen hbits hg => ?_
  obtain ⟨K, KX, c, gl⟩ := Y
  have hs : Has G (caOf G K) (fadOf ds K) K mg := has_of ct bs KX Gr.T.g c gl
  have hfa : fa = fadOf ds K f0 := by
    have e := hmg
    rw [h0n, (hs.fns f0 d0 hf0).2 h0c] at e
    cases e
    rfl
  obtain ⟨⟨fx, qual, params, body, scope, fd, F, S, hc, hb⟩, _⟩ := hs.fns f0 d0 hf0
  subst hfa
  have hF : ∀ base : Heap, FnOk l.prog w K mg base noCX (k + 1) (fadOf ds K f0) fd [x] (spF ⟨K, G.nm, caOf G K⟩ 1 (callN G k f0)) := fun base => by
    obtain ⟨fd', ⟨oc', od', osl', lk'⟩, _, _, F'⟩ := (levs (P := l.prog) (w := w) (base := base) hs k).1 f0 d0 hf0
    obtain ⟨oc, od, osl, lk⟩ := fd_at F
    rw [lk] at lk'
    cases lk'
    rw [h0p] at F'
    exact F'
  have hbd : ∀ (s : Shared) (u : Value), BindsTo s fd ⟨[u], []⟩ [(x, u)] := fun s u => by
    have z := F.bindsA hb s [u] (by rw [h0p]; rfl)
    rw [h0p] at z
    exact z
  refine law_call KX Gr.T.g Gr.T.b Gr.T.builtins Gr.T.nolimit hg hobj hints (Nat.le_trans hlen hn2) hr (fun base _ _ => hF base) hbd (fun H hO hS => ?_) fun H e s' z => z
  obtain ⟨h', e⟩ := end_ ns hlen hbits
  refine ⟨[a], [.frz (ns.map Val.int)], [.ref 0], ⟨hs.nd, rfl, fun i j b o1 o2 e1 e2 q1 q2 m1 m2 => ?_, fun i ob q => ?_⟩, .cons (.ref rfl) .nil, rfl, ?_⟩
  · cases i with
    | zero => cases q1; cases m1
    | succ i => cases q1
  · cases i with
    | zero =>
      cases q
      refine ⟨a, rfl, ns.map V.int, ?_, rvs_ints ns⟩
      rcases hS with (z | z) | z
      · rcases hO a with y | ⟨o', xs', y⟩
        · rw [y] at z; cases z
        · rw [y] at z; cases z
      · exact .inl z
      · exact .inr (.inr z)
    | succ i => cases q
  · rw [e]
    intro m' H' _ _ y ry
    cases ry
    rfl
end MP

set_option Elab.async false
set_option linter.all false
set_option maxRecDepth 100000
set_option maxHeartbeats 4000000
set_option autoImplicit false
/-! MPq: the laws' own two helpers, by values. -/
namespace MP
open PySem PySem.Spec L2

def drawFn : Fn := ⟨none, "_law_draw", ["_law_script"], ["_law_script", "_law_seed", "_law_cell"],
    .cons (.asg (.nm 1) (.int 7))
    (.cons (.fors (.nm 2) (.val (.var 0))
    (.cons (.asg (.nm 1) (.bin .Mod (.prim .int (.cons (.bin .Add (.bin .Add (.bin .Mult (.var 1) (.int 48271)) (.bin .Mod (.prim .abs (.cons (.prim .int (.cons (.var 2) .nil)) .nil)) (.int 65521))) (.int 1)) .nil)) (.int 2147483647))) .nil))
    (.cons (.ret (.lst (.cons (.lc (.prim .abs (.cons (.prim .int (.cons (.var 2) .nil)) .nil)) (.nm 2) (.val (.var 0)) .none [("_law_cell", 2)]) (.cons (.neg (.int 1)) (.cons (.int 0) (.cons (.var 1) .nil)))))) .nil))⟩
def takeFn : Fn := ⟨none, "_law_take", ["_law_draw_here", "_law_many"], ["_law_draw_here", "_law_many", "_law_found"],
    .cons (.ifs (.cmp .Eq (.ix (.var 0) (.int 2)) (.int 0))
    (.cons (.sub (.var 0) (.int 1) (.bin .Add (.ix (.var 0) (.int 1)) (.int 1)))
    (.cons (.ifs (.cmp .Lt (.ix (.var 0) (.int 1)) (.prim .len (.cons (.ix (.var 0) (.int 0)) .nil)))
    (.cons (.sub (.var 0) (.int 2) (.ix (.ix (.var 0) (.int 0)) (.ix (.var 0) (.int 1)))) .nil)
    (.nil))
    (.cons (.ifs (.cmp .Eq (.ix (.var 0) (.int 2)) (.int 0))
    (.cons (.sub (.var 0) (.int 3) (.bin .Mod (.prim .int (.cons (.bin .Add (.bin .Mult (.ix (.var 0) (.int 3)) (.int 48271)) (.int 11)) .nil)) (.int 2147483647)))
    (.cons (.sub (.var 0) (.int 2) (.ix (.var 0) (.int 3))) .nil))
    (.nil)) .nil)))
    (.nil))
    (.cons (.asg (.nm 2) (.bin .Mod (.prim .int (.cons (.ix (.var 0) (.int 2)) .nil)) (.var 1)))
    (.cons (.sub (.var 0) (.int 2) (.bin .FloorDiv (.ix (.var 0) (.int 2)) (.var 1)))
    (.cons (.ret (.var 2)) .nil)))⟩
/-- the draws' state -/
structure DS where
  scr : Ob
  cells : List Int
  p : Int
  l : Int
  s : Int
def DS.hs (d : DS) : Hs := [d.scr, .lst (d.cells.map Val.int), .lst [.ref 1, .int d.p, .int d.l, .int d.s]]
structure DS.ok (d : DS) : Prop where
  c : ∀ x ∈ d.cells, 0 ≤ x
  p : -1 ≤ d.p
  l : 0 ≤ d.l
  s : 0 ≤ d.s
  s' : d.s < 2147483647
theorem bits_lt {i : Int} (h : 0 ≤ i) (h2 : i < 2147483648) : bits i < 32 := by
  unfold bits
  by_cases h0 : i.natAbs = 0
  · rw [h0]; decide
  · exact (Nat.log2_lt h0).mpr (by omega)
theorem atI_nn {α : Type} {xs : List α} {i : Int} (h : 0 ≤ i) (h2 : i < xs.length) : atI xs i = xs[i.toNat]? := by
  unfold atI ixN
  rw [if_pos h, if_pos h2]
  rfl
def takeS (d : DS) (many : Int) : Int × DS :=
  let d := if d.l = 0 then
      let p := d.p + 1
      let l := if p < d.cells.length then d.cells[p.toNat]?.getD 0 else 0
      if l = 0 then { d with p := p, l := (d.s * 48271 + 11) % 2147483647, s := (d.s * 48271 + 11) % 2147483647 } else { d with p := p, l := l }
    else d
  (d.l % many, { d with l := d.l / many })
theorem atI_k {α : Type} (xs : List α) (k : Nat) : atI xs (k : Int) = xs[k]? := by
  by_cases h : k < xs.length
  · rw [atI_nn (by omega) (by omega)]; rfl
  · rw [List.getElem?_eq_none (by omega)]
    unfold atI ixN
    rw [if_pos (by omega), if_neg (by omega)]
    rfl
@[simp] theorem atI_2 {α : Type} (xs : List α) : atI xs 2 = xs[2]? := atI_k xs 2
@[simp] theorem atI_3 {α : Type} (xs : List α) : atI xs 3 = xs[3]? := atI_k xs 3
@[simp] theorem atI_4 {α : Type} (xs : List α) : atI xs 4 = xs[4]? := atI_k xs 4
@[simp] theorem atI_5 {α : Type} (xs : List α) : atI xs 5 = xs[5]? := atI_k xs 5
@[simp] theorem atI_6 {α : Type} (xs : List α) : atI xs 6 = xs[6]? := atI_k xs 6
@[simp] theorem atI_7 {α : Type} (xs : List α) : atI xs 7 = xs[7]? := atI_k xs 7
@[simp] theorem atI_8 {α : Type} (xs : List α) : atI xs 8 = xs[8]? := atI_k xs 8
@[simp] theorem atI_9 {α : Type} (xs : List α) : atI xs 9 = xs[9]? := atI_k xs 9
@[simp] theorem atI_0 {α : Type} (xs : List α) : atI xs 0 = xs[0]? := by
  by_cases h : 0 < xs.length
  · rw [atI_nn (by decide) (by omega)]; rfl
  · rw [List.getElem?_eq_none (by omega)]
    unfold atI ixN
    rw [if_pos (by decide), if_neg (by omega)]
    rfl
@[simp] theorem atI_1 {α : Type} (xs : List α) : atI xs 1 = xs[1]? := by
  by_cases h : 1 < xs.length
  · rw [atI_nn (by decide) (by omega)]; rfl
  · rw [List.getElem?_eq_none (by omega)]
    unfold atI ixN
    rw [if_pos (by decide), if_neg (by omega)]
    rfl
section
variable {G : Tab} {t n : Nat}
theorem take_eq (ht : G.fns[t]? = some takeFn) {d : DS} (ok : d.ok) {many : Int} (hm : 0 < many) (hb : bits many < 9000) (rest : Hs) :
    callN G (n + 1) t [.ref 2, .int many] (d.hs ++ rest) = .ok (.int (takeS d many).1) ((takeS d many).2.hs ++ rest) := by
  obtain ⟨scr, cells, p, l, s⟩ := d
  have hp : -1 ≤ p := ok.p
  have hs : bits s + bits 48271 < 1000000 := by
    have h1 := bits_lt (i := s) ok.s (by have := ok.s'; simp only at this; omega)
    have h2 : bits 48271 < 32 := bits_lt (by decide) (by decide)
    omega
  rw [callN_eq ht]
  by_cases h0 : l = 0
  · subst h0
    by_cases h1 : p + 1 < cells.length
    · have hc : atI (cells.map Val.int) (p + 1) = some (.int (cells[(p + 1).toNat]?.getD 0)) := by
        rw [atI_nn (by omega) (by simpa using h1), List.getElem?_map, List.getElem?_eq_getElem (by omega)]
        rfl
      by_cases h2 : cells[(p + 1).toNat]?.getD 0 = 0
      · rw [h2] at hc
        simp [takeFn, DS.hs, ixN, takeS, h1, h2, hc, hs, hm, hb]
      · simp [takeFn, DS.hs, ixN, takeS, h1, h2, hc, hm, hb]
    · simp [takeFn, DS.hs, ixN, takeS, h1, hs, hm, hb]
  · simp [takeFn, DS.hs, ixN, takeS, h0, hm, hb]
end
theorem takeS_ok {d : DS} (ok : d.ok) {many : Int} (hm : 0 < many) : (takeS d many).2.ok ∧ 0 ≤ (takeS d many).1 ∧ (takeS d many).1 < many ∧ (takeS d many).2.scr = d.scr ∧ (takeS d many).2.cells = d.cells := by
  obtain ⟨scr, cells, p, l, s⟩ := d
  have h1 := ok.c
  have h2 := ok.p
  have h3 := ok.l
  have h4 := ok.s
  have h5 := ok.s'
  dsimp only at h1 h2 h3 h4 h5
  have hc : ∀ i : Nat, 0 ≤ cells[i]?.getD 0 := fun i => by
    cases q : cells[i]? with
    | none => exact Int.le_refl 0
    | some x => exact h1 x (List.mem_of_getElem? q)
  have key : ∀ d : DS, d.ok → d.scr = scr → d.cells = cells → ({ d with l := d.l / many } : DS).ok ∧ 0 ≤ d.l % many ∧ d.l % many < many ∧ d.scr = scr ∧ d.cells = cells := fun d o a b =>
    ⟨⟨o.c, o.p, Int.ediv_nonneg o.l (by omega), o.s, o.s'⟩, Int.emod_nonneg _ (by omega), Int.emod_lt_of_pos _ hm, a, b⟩
  unfold takeS
  refine key _ ?_ ?_ ?_
  · dsimp only
    by_cases h0 : l = 0
    · rw [if_pos h0]
      by_cases h6 : (if p + 1 < (cells.length : Int) then cells[(p + 1).toNat]?.getD 0 else 0) = 0
      · rw [if_pos h6]
        exact ⟨h1, show -1 ≤ p + 1 by omega, show 0 ≤ (s * 48271 + 11) % 2147483647 from Int.emod_nonneg _ (by decide), show 0 ≤ (s * 48271 + 11) % 2147483647 from Int.emod_nonneg _ (by decide), show (s * 48271 + 11) % 2147483647 < 2147483647 from Int.emod_lt_of_pos _ (by decide)⟩
      · rw [if_neg h6]
        refine ⟨h1, show -1 ≤ p + 1 by omega, ?_, h4, h5⟩
        show 0 ≤ (if p + 1 < (cells.length : Int) then cells[(p + 1).toNat]?.getD 0 else 0)
        split
        · exact hc _
        · exact Int.le_refl 0
    · rw [if_neg h0]
      exact ok
  · dsimp only
    repeat' split
    all_goals rfl
  · dsimp only
    repeat' split
    all_goals rfl
/-! the draws' start -/
def absI (c : Int) : Int := if c < 0 then -c else c
def seedF (s c : Int) : Int := (s * 48271 + absI c % 65521 + 1) % 2147483647
theorem seedF_ok (s c : Int) : 0 ≤ seedF s c ∧ seedF s c < 2147483647 := ⟨Int.emod_nonneg _ (by decide), Int.emod_lt_of_pos _ (by decide)⟩
theorem mapI_abs (ns : List Int) : (ns.map absI).map Val.int = ns.map fun c => Val.int (absI c) := by rw [List.map_map]; rfl
@[simp] theorem beqs_self (vs : List Val) : Val.beqs vs vs = true := Val.beqs_refl vs
def drawD (ns : List Int) : DS := ⟨.frz (ns.map Val.int), ns.map absI, -1, 0, ns.foldl seedF 7⟩
section
variable {G : Tab} {t n : Nat}
theorem seed_loop (C : Calls) (all : List Val) : ∀ (ns : List Int) (s : Int) (o : Option Val), 0 ≤ s → s < 2147483647 →
    ∃ o', forV (forK (.nm 2) (exs C (.cons (.asg (.nm 1) (.bin .Mod (.prim .int (.cons (.bin .Add (.bin .Add (.bin .Mult (.var 1) (.int 48271)) (.bin .Mod (.prim .abs (.cons (.prim .int (.cons (.var 2) .nil)) .nil)) (.int 65521))) (.int 1)) .nil)) (.int 2147483647))) .nil))) (.lst 0 all) (ns.map Val.int) [some (.ref 0), some (.int s), o] [.frz all] = .nx [some (.ref 0), some (.int (ns.foldl seedF s)), o'] [.frz all]
  | [], s, o, _, _ => ⟨o, by simp [forV, Src.ok]⟩
  | c :: ns, s, o, h1, h2 => by
    obtain ⟨o', ih⟩ := seed_loop C all ns (seedF s c) (some (.int c)) (seedF_ok s c).1 (seedF_ok s c).2
    refine ⟨o', ?_⟩
    have hs : bits s + bits 48271 < 1000000 := by
      have h1 := bits_lt (i := s) h1 (by omega)
      have h2 : bits 48271 < 32 := bits_lt (by decide) (by decide)
      omega
    rw [List.foldl_cons, ← ih]
    simp [forV, Src.ok, forK, hs, seedF, absI]
theorem abs_loop (C : Calls) (all : List Val) (st : Sl) (hst : st = [some (.ref 0), some (.int 0), none] ∨ st.length = 3) : ∀ (ns acc : List Int), acc.length + ns.length ≤ 1000 →
    compV (stepG (.nm 2) (etc C .none) (ev C (.prim .abs (.cons (.prim .int (.cons (.var 2) .nil)) .nil))) st) (.lst 0 all) 1 (ns.map Val.int) [.frz all, .lst ((acc.map absI).map Val.int)] = .ok () [.frz all, .lst (((acc ++ ns).map absI).map Val.int)]
  | [], acc, _ => by simp [compV, Src.ok]
  | c :: ns, acc, h => by
    have ih := abs_loop C all st hst ns (acc ++ [c]) (by simp at h ⊢; omega)
    have h3 : 2 < st.length := by rcases hst with rfl | h <;> simp_all
    rw [List.append_assoc] at ih
    have e : [c] ++ ns = c :: ns := rfl
    rw [e] at ih
    rw [← ih]
    simp only [List.length_cons] at h
    have hl : acc.length < lim := by unfold lim; omega
    simp [compV, Src.ok, h3, hl, absI]
theorem draw_eq (ht : G.fns[t]? = some drawFn) (ns : List Int) (hn : ns.length ≤ 63) : callN G (n + 1) t [.ref 0] [.frz (ns.map Val.int)] = .ok (.ref 2) (drawD ns).hs := by
  rw [callN_eq ht]
  obtain ⟨o', e1⟩ := seed_loop (callsN G n) (ns.map Val.int) ns 7 none (by decide) (by decide)
  have e2 := abs_loop (callsN G n) (ns.map Val.int) [some (.ref 0), some (.int (ns.foldl seedF 7)), none] (.inr rfl) ns [] (by simp; omega)
  simp only [List.map_nil, List.nil_append] at e2
  simp [drawFn, e1, e2, lim, DS.hs, drawD]
theorem drawD_ok (ns : List Int) : (drawD ns).ok := by
  refine ⟨fun x hx => ?_, show (-1 : Int) ≤ -1 by decide, show (0 : Int) ≤ 0 by decide, ?_, ?_⟩
  · obtain ⟨c, _, rfl⟩ := List.mem_map.mp hx
    unfold absI
    split <;> omega
  · show 0 ≤ ns.foldl seedF 7
    have : ∀ (ns : List Int) (s : Int), 0 ≤ s → 0 ≤ ns.foldl seedF s := fun ns => by
      induction ns with
      | nil => exact fun s h => h
      | cons c r ih => exact fun s _ => ih _ (seedF_ok s c).1
    exact this ns 7 (by decide)
  · show ns.foldl seedF 7 < 2147483647
    have : ∀ (ns : List Int) (s : Int), s < 2147483647 → ns.foldl seedF s < 2147483647 := fun ns => by
      induction ns with
      | nil => exact fun s h => h
      | cons c r ih => exact fun s _ => ih _ (seedF_ok s c).2
    exact this ns 7 (by decide)
end
/-! the heap behind the draws -/
@[simp high] theorem hs_get (d : DS) (r : Hs) (n : Nat) : (d.hs ++ r)[n + 3]? = r[n]? := rfl
@[simp high] theorem hs_get3 (d : DS) (r : Hs) : (d.hs ++ r)[3]? = r[0]? := rfl
@[simp high] theorem hs_set (d : DS) (r : Hs) (n : Nat) (x : Ob) : (d.hs ++ r).set (n + 3) x = d.hs ++ r.set n x := rfl
@[simp high] theorem hs_set3 (d : DS) (r : Hs) (x : Ob) : (d.hs ++ r).set 3 x = d.hs ++ r.set 0 x := rfl
@[simp high] theorem hs_get' (d : DS) (r : Hs) (n : Nat) : (d.hs ++ r)[3 + n]? = r[n]? := by
  rw [Nat.add_comm]
  rfl
@[simp high] theorem hs_set' (d : DS) (r : Hs) (n : Nat) (x : Ob) : (d.hs ++ r).set (3 + n) x = d.hs ++ r.set n x := by
  rw [Nat.add_comm]
  rfl
@[simp high] theorem hs_len (d : DS) : d.hs.length = 3 := rfl
/-! a loop that comes to its end -/
def okO (P : Sl → Hs → Prop) (o : O) : Prop := match o with
  | .nx st h => P st h
  | .ct st h => P st h
  | _ => False
@[simp] theorem okO_nx (P : Sl → Hs → Prop) (st : Sl) (h : Hs) : okO P (.nx st h) = P st h := rfl
@[simp] theorem okO_ct (P : Sl → Hs → Prop) (st : Sl) (h : Hs) : okO P (.ct st h) = P st h := rfl
theorem forV_vals {step : Val → Sl → Hs → O} {all : List Val} {P : Sl → Hs → Prop} : ∀ (vs : List Val) {st : Sl} {h : Hs}, P st h → (∀ v ∈ vs, ∀ st h, P st h → okO P (step v st h)) →
    ∃ st' h', forV step (.vals all) vs st h = .nx st' h' ∧ P st' h'
  | [], st, h, p, _ => ⟨st, h, by simp [forV, Src.ok], p⟩
  | v :: vs, st, h, p, k => by
    have k1 := k v List.mem_cons_self st h p
    cases e : step v st h with
    | nx st1 h1 =>
      rw [e] at k1
      obtain ⟨st2, h2, e2, p2⟩ := forV_vals (all := all) vs k1 fun w hw => k w (List.mem_cons_of_mem _ hw)
      exact ⟨st2, h2, by rw [← e2]; simp [forV, Src.ok, e], p2⟩
    | ct st1 h1 =>
      rw [e] at k1
      obtain ⟨st2, h2, e2, p2⟩ := forV_vals (all := all) vs k1 fun w hw => k w (List.mem_cons_of_mem _ hw)
      exact ⟨st2, h2, by rw [← e2]; simp [forV, Src.ok, e], p2⟩
    | rt _ _ => rw [e] at k1; exact k1.elim
    | bk _ _ => rw [e] at k1; exact k1.elim
    | exc _ _ _ => rw [e] at k1; exact k1.elim
    | stk => rw [e] at k1; exact k1.elim
theorem pick {xs : List Val} {i : Int} (h : 0 ≤ i) (h2 : i < xs.length) : ∃ v, atI xs i = some v ∧ v ∈ xs := by
  rw [atI_nn h h2, List.getElem?_eq_getElem (by omega)]
  exact ⟨_, rfl, List.getElem_mem _⟩
theorem rangeV_mem {c : Int} : ∀ {n : Nat} {lo : Int} {v : Val}, v ∈ rangeV lo c n → ∃ i : Nat, i < n ∧ v = .int (lo + i * c)
  | n, lo, v, h => by
    obtain ⟨i, hi⟩ := List.mem_iff_getElem?.mp h
    obtain ⟨h1, h2⟩ := rangeV_get c n lo i v hi
    exact ⟨i, h1, h2⟩
theorem hlim_eq : hlim = 4611686018427387904 := rfl
theorem lim_val : lim = 16777216 := rfl
theorem bits_small {i : Int} (h : 0 ≤ i) (h2 : i ≤ 4294967296) : bits i < 9000 := by
  unfold bits
  by_cases h0 : i.natAbs = 0
  · rw [h0]; decide
  · have : i.natAbs.log2 < 34 := (Nat.log2_lt h0).mpr (by omega)
    omega
/-- a draw, with its answer named -/
theorem take_ex {G : Tab} {t n : Nat} (ht : G.fns[t]? = some takeFn) {d : DS} (ok : d.ok) {many : Int} (hm : 0 < many) (hb : many ≤ 4294967296) :
    ∃ (x : Int) (d' : DS), d'.ok ∧ 0 ≤ x ∧ x < many ∧ ∀ r : Hs, callN G (n + 1) t [.ref 2, .int many] (d.hs ++ r) = .ok (.int x) (d'.hs ++ r) :=
  ⟨_, _, (takeS_ok ok hm).1, (takeS_ok ok hm).2.1, (takeS_ok ok hm).2.2.1, fun r => take_eq ht ok hm (bits_small (by omega) hb) r⟩
/-! comprehensions that leave the heap as it is -/
theorem comp_pure {step : Val → Hs → R (Option Val)} {src : Src} {n : Nat} {h0 : Hs} {g : Val → Option Val} (hn : n = h0.length) (hok : ∀ acc, src.ok (h0 ++ [.lst acc]) = true) : ∀ (items acc : List Val),
    (∀ v ∈ items, ∀ acc, step v (h0 ++ [.lst acc]) = .ok (g v) (h0 ++ [.lst acc])) → acc.length + items.length ≤ lim → compV step src n items (h0 ++ [.lst acc]) = .ok () (h0 ++ [.lst (acc ++ items.filterMap g)])
  | [], acc, _, _ => by simp [compV, hok]
  | v :: vs, acc, hs, hl => by
    subst hn
    have e := hs v List.mem_cons_self acc
    simp only [List.length_cons] at hl
    have ih := fun acc hl => comp_pure (h0 := h0) rfl hok vs acc (fun w hw => hs w (List.mem_cons_of_mem _ hw)) hl
    cases q : g v with
    | none =>
      rw [q] at e
      simp [compV, hok, e, q, ih acc (by omega)]
    | some y =>
      rw [q] at e
      have i2 := ih (acc ++ [y]) (by simp; omega)
      have hl2 : acc.length < lim := by omega
      rw [List.append_assoc] at i2
      simp only [List.singleton_append] at i2
      simp [compV, hok, e, q, hl2, i2]
theorem comp_vals {step : Val → Hs → R (Option Val)} {all : List Val} {h0 : Hs} {g : Val → Option Val} (items : List Val)
    (hs : ∀ v ∈ items, ∀ acc, step v (h0 ++ [.lst acc]) = .ok (g v) (h0 ++ [.lst acc])) (hl : items.length ≤ lim) : compV step (.vals all) h0.length items (h0 ++ [.lst []]) = .ok () (h0 ++ [.lst (items.filterMap g)]) := by
  have := comp_pure (src := .vals all) (g := g) (h0 := h0) rfl (fun _ => rfl) items [] hs (by simpa using hl)
  simpa using this
theorem isInts_map : ∀ ns : List Int, isInts (ns.map Val.int) = some ns
  | [] => rfl
  | n :: ns => by
    rw [List.map_cons, isInts, isInts_map ns]
    rfl
theorem rangeV_map (n : Nat) : rangeV 0 1 n = (List.range n).map fun (i : Nat) => Val.int (i : Int) := by
  refine List.ext_getElem? fun i => ?_
  rw [List.getElem?_map]
  by_cases h : i < n
  · have h1 : i < (rangeV 0 1 n).length := by rw [rangeV_len]; exact h
    rw [List.getElem?_eq_getElem h1]
    obtain ⟨_, e⟩ := rangeV_get 1 n 0 i _ (List.getElem?_eq_getElem h1)
    rw [e]
    simp [h]
  · rw [List.getElem?_eq_none (by rw [rangeV_len]; omega), List.getElem?_eq_none (by simpa using h)]
    rfl
/-! a heap and what was put behind it -/
@[simp high] theorem app_get (h l : Hs) (k : Nat) : (h ++ l)[h.length + k]? = l[k]? := by
  rw [List.getElem?_append_right (Nat.le_add_right _ _)]
  congr 1
  omega
@[simp high] theorem app_get0 (h l : Hs) : (h ++ l)[h.length]? = l[0]? := app_get h l 0
@[simp high] theorem app_set (h l : Hs) (k : Nat) (x : Ob) : (h ++ l).set (h.length + k) x = h ++ l.set k x := by
  rw [List.set_append_right _ _ (Nat.le_add_right _ _)]
  congr 2
  omega
@[simp high] theorem app_set0 (h l : Hs) (x : Ob) : (h ++ l).set h.length x = h ++ l.set 0 x := app_set h l 0 x
theorem app_old {h l : Hs} {p : Nat} {o : Ob} (e : h[p]? = some o) : (h ++ l)[p]? = some o := by
  rw [List.getElem?_append_left (List.getElem?_eq_some_iff.mp e).1]
  exact e
/-- a comprehension that leaves the heap as it is -/
theorem lc_ev {C : Calls} {elt : E} {tg : Tg} {it : I} {cond : Eo} {own : List (Str × Nat)} {st : Sl} {h : Hs} {items : List Val} {g : Val → Option Val} (hi : evi C it st h = .ok (.vals items) h)
    (hs : ∀ v ∈ items, ∀ acc, stepG tg (etc C cond) (ev C elt) (wipeS st (own.map (·.2))) v (h ++ [.lst acc]) = .ok (g v) (h ++ [.lst acc])) (hl : items.length ≤ lim) :
    ev C (.lc elt tg it cond own) st h = .ok (.ref h.length) (h ++ [.lst (items.filterMap g)]) := by
  rw [q_ev_lc, hi, R.bind_ok]
  unfold lcG
  rw [show (Src.vals items).items = items from rfl, comp_vals items hs hl]
  rfl
@[simp] theorem eqW_ii (a b : Int) : eqW (.int a) (.int b) = decide (a = b) := rfl
@[simp] theorem eqW_ss (a b : List Nat) : eqW (.str a) (.str b) = decide (a = b) := rfl
/-! ints among ints -/
theorem any_int (ns : List Int) (o : Int) : (ns.map Val.int).any (fun z => eqW z (.int o)) = decide (o ∈ ns) := by
  induction ns with
  | nil => simp
  | cons n ns ih =>
    rw [List.map_cons, List.any_cons, ih]
    simp only [eqW, List.mem_cons]
    by_cases h : n = o
    · simp [h]
    · simp [h, Ne.symm h]
theorem flat_ints (ns : List Int) : (ns.map Val.int).all flat = true := by
  rw [List.all_map]
  exact List.all_eq_true.mpr fun _ _ => rfl
@[simp high] theorem in_tup (h : Hs) (ns : List Int) (o : Int) : inF h (.int o) (.tup (ns.map Val.int)) = some (decide (o ∈ ns)) := by
  simp only [inF, inGen, dctOf, seqOf, inSq, flat_ints, any_int, flat, if_true, and_self]
theorem in_lst {h : Hs} {p : Nat} {ns : List Int} (e : h[p]? = some (.lst (ns.map Val.int))) (o : Int) : inF h (.int o) (.ref p) = some (decide (o ∈ ns)) := by
  simp only [inF, inGen, dctOf, seqOf, inSq, flat_ints, any_int, flat, if_true, and_self, e]
/-- a comprehension with an invariant -/
theorem comp_inv {step : Val → Hs → R (Option Val)} {src : Src} {n : Nat} {P : List Val → Hs → Prop} (hP : ∀ acc h, P acc h → h[n]? = some (.lst acc) ∧ src.ok h = true) : ∀ (items acc : List Val) (h : Hs),
    (∀ v ∈ items, ∀ acc h, P acc h → (∃ h1, step v h = .ok none h1 ∧ P acc h1) ∨ ∃ y h1, step v h = .ok (some y) h1 ∧ h1[n]? = some (.lst acc) ∧ P (acc ++ [y]) (h1.set n (.lst (acc ++ [y])))) →
    P acc h → acc.length + items.length ≤ lim → ∃ acc' h', compV step src n items h = .ok () h' ∧ P acc' h' ∧ acc'.length ≤ acc.length + items.length
  | [], acc, h, _, p, _ => ⟨acc, h, by simp [compV, (hP acc h p).2], p, by simp⟩
  | v :: vs, acc, h, hs, p, hl => by
    simp only [List.length_cons] at hl
    have ok := (hP acc h p).2
    rcases hs v List.mem_cons_self acc h p with ⟨h1, e, p1⟩ | ⟨y, h1, e, e1, p1⟩
    · obtain ⟨acc', h', e2, p2, l2⟩ := comp_inv hP vs acc h1 (fun w hw => hs w (List.mem_cons_of_mem _ hw)) p1 (by omega)
      exact ⟨acc', h', by simp [compV, ok, e, e2], p2, by simp at l2 ⊢; omega⟩
    · obtain ⟨acc', h', e2, p2, l2⟩ := comp_inv hP vs (acc ++ [y]) _ (fun w hw => hs w (List.mem_cons_of_mem _ hw)) p1 (by simp; omega)
      have hl2 : acc.length < lim := by omega
      exact ⟨acc', h', by simp [compV, ok, e, e1, hl2, e2], p2, by simp at l2 ⊢; omega⟩
/-- a loop with an invariant by what is done so far -/
theorem forV_hist {step : Val → Sl → Hs → O} {src : Src} {P : List Val → Sl → Hs → Prop} (hok : ∀ done st h, P done st h → src.ok h = true) : ∀ (vs done : List Val) {st : Sl} {h : Hs}, P done st h → (∀ v ∈ vs, ∀ done st h, P done st h → okO (P (done ++ [v])) (step v st h)) →
    ∃ st' h', forV step src vs st h = .nx st' h' ∧ P (done ++ vs) st' h'
  | [], done, st, h, p, _ => ⟨st, h, by simp [forV, hok _ _ _ p], by rw [List.append_nil]; exact p⟩
  | v :: vs, done, st, h, p, k => by
    have k1 := k v List.mem_cons_self done st h p
    have ok := hok _ _ _ p
    have ea : done ++ v :: vs = (done ++ [v]) ++ vs := by simp
    cases e : step v st h with
    | nx st1 h1 =>
      rw [e] at k1
      obtain ⟨st2, h2, e2, p2⟩ := forV_hist hok vs (done ++ [v]) k1 fun w hw => k w (List.mem_cons_of_mem _ hw)
      exact ⟨st2, h2, by rw [← e2]; simp [forV, ok, e], by rw [ea]; exact p2⟩
    | ct st1 h1 =>
      rw [e] at k1
      obtain ⟨st2, h2, e2, p2⟩ := forV_hist hok vs (done ++ [v]) k1 fun w hw => k w (List.mem_cons_of_mem _ hw)
      exact ⟨st2, h2, by rw [← e2]; simp [forV, ok, e], by rw [ea]; exact p2⟩
    | rt _ _ => rw [e] at k1; exact k1.elim
    | bk _ _ => rw [e] at k1; exact k1.elim
    | exc _ _ _ => rw [e] at k1; exact k1.elim
    | stk => rw [e] at k1; exact k1.elim
/-! equal by data -/
theorem eqv_refl_int (i : Int) : PyData.eqv (.int i) (.int i) = true := by simp [PyData.eqv]
mutual
def dataOk : PyData → Bool
  | .dict _ => false
  | .list xs => dataAll xs
  | .tuple xs => dataAll xs
  | _ => true
def dataAll : List PyData → Bool
  | [] => true
  | x :: xs => dataOk x && dataAll xs
end
mutual
theorem eqv_refl : ∀ d : PyData, dataOk d = true → PyData.eqv d d = true
  | .none, _ => by simp [PyData.eqv]
  | .bool _, _ => by simp [PyData.eqv]
  | .int _, _ => by simp [PyData.eqv]
  | .str _, _ => by simp [PyData.eqv]
  | .list xs, h => by
    rw [dataOk] at h
    rw [PyData.eqv]
    exact eqvAll_refl xs h
  | .tuple xs, h => by
    rw [dataOk] at h
    rw [PyData.eqv]
    exact eqvAll_refl xs h
  | .dict _, h => by cases h
theorem eqvAll_refl : ∀ xs : List PyData, dataAll xs = true → PyData.eqvAll xs xs = true
  | [], _ => by simp [PyData.eqvAll]
  | x :: xs, h => by
    rw [dataAll, Bool.and_eq_true] at h
    rw [PyData.eqvAll, eqv_refl x h.1, eqvAll_refl xs h.2]
    rfl
end
/-- a loop with an invariant by the number of turns done -/
theorem forV_cnt {step : Val → Sl → Hs → O} {all : List Val} {P : Nat → Sl → Hs → Prop} (K : Nat) : ∀ (vs : List Val) (k : Nat) {st : Sl} {h : Hs}, P k st h → k + vs.length ≤ K → (∀ v ∈ vs, ∀ k st h, k < K → P k st h → okO (P (k + 1)) (step v st h)) →
    ∃ st' h', forV step (.vals all) vs st h = .nx st' h' ∧ P (k + vs.length) st' h'
  | [], k, st, h, p, _, _ => ⟨st, h, by simp [forV, Src.ok], p⟩
  | v :: vs, k, st, h, p, hk, s => by
    simp only [List.length_cons] at hk
    have k1 := s v List.mem_cons_self k st h (by omega) p
    have e : k + (v :: vs).length = k + 1 + vs.length := by simp only [List.length_cons]; omega
    rw [e]
    cases q : step v st h with
    | nx st1 h1 =>
      rw [q] at k1
      obtain ⟨st2, h2, e2, p2⟩ := forV_cnt (all := all) K vs (k + 1) k1 (by omega) fun w hw => s w (List.mem_cons_of_mem _ hw)
      exact ⟨st2, h2, by rw [← e2]; simp [forV, Src.ok, q], p2⟩
    | ct st1 h1 =>
      rw [q] at k1
      obtain ⟨st2, h2, e2, p2⟩ := forV_cnt (all := all) K vs (k + 1) k1 (by omega) fun w hw => s w (List.mem_cons_of_mem _ hw)
      exact ⟨st2, h2, by rw [← e2]; simp [forV, Src.ok, q], p2⟩
    | rt _ _ => rw [q] at k1; exact k1.elim
    | bk _ _ => rw [q] at k1; exact k1.elim
    | exc _ _ _ => rw [q] at k1; exact k1.elim
    | stk => rw [q] at k1; exact k1.elim
theorem atI_neg1 {α : Type} (xs : List α) : atI xs (-1) = xs.getLast? := by
  unfold atI ixN
  rw [if_neg (by decide), List.getLast?_eq_getElem?]
  cases xs with
  | nil => rfl
  | cons x xs =>
    rw [if_pos (by simp; omega)]
    show (x :: xs)[(-1 + ((x :: xs).length : Int)).toNat]? = _
    congr 1
    simp only [List.length_cons]
    omega
theorem pickN {xs : List Nat} {i : Int} (h : 0 ≤ i) (h2 : i < xs.length) : ∃ v, atI xs i = some v ∧ v ∈ xs := by
  rw [atI_nn h h2, List.getElem?_eq_getElem (by omega)]
  exact ⟨_, rfl, List.getElem_mem _⟩
theorem at_suf {α : Type} {T : List α} {k : Nat} {c : α} {r : List α} (e : T.drop k = c :: r) : atI T (k : Int) = some c ∧ T.drop (k + 1) = r ∧ T.length = k + (c :: r).length := by
  have h0 : T[k]? = some c := by
    have : (T.drop k)[0]? = some c := by rw [e]; rfl
    simpa using this
  have h1 := (List.getElem?_eq_some_iff.mp h0).1
  refine ⟨by rw [atI_k]; exact h0, by rw [← List.drop_drop, e]; rfl, ?_⟩
  have := congrArg List.length e
  rw [List.length_drop] at this
  omega
theorem cutL_len {α : Type} (xs : List α) (lo hi : Option Int) : (cutL xs lo hi).length ≤ xs.length := by
  unfold cutL
  rw [List.length_take, List.length_drop]
  omega
end MP

set_option Elab.async false
set_option linter.all false
set_option maxRecDepth 100000
set_option maxHeartbeats 4000000
set_option autoImplicit false
/-! MPr: values without references as data; == of such, of lists of such. -/
namespace MP
open PySem PySem.Spec L2
mutual
def toD : Val → PyData
  | .non => .none
  | .bl b => .bool b
  | .int i => .int i
  | .str s => .str ⟨s.toArray⟩
  | .tup vs => .tuple (toDs vs)
  | .ref _ => .none
def toDs : List Val → List PyData
  | [] => []
  | v :: vs => toD v :: toDs vs
end
mutual
/-- no references, signs in their range -/
def okV : Val → Bool
  | .str s => s.all fun c => decide (c < 1114112)
  | .tup vs => okVs vs
  | .ref _ => false
  | _ => true
def okVs : List Val → Bool
  | [] => true
  | v :: vs => okV v && okVs vs
end
mutual
def vdep : Val → Nat
  | .tup vs => vdeps vs + 1
  | _ => 0
def vdeps : List Val → Nat
  | [] => 0
  | v :: vs => max (vdep v) (vdeps vs)
end
mutual
/-- no truth values -/
def noB : Val → Bool
  | .bl _ => false
  | .tup vs => noBs vs
  | _ => true
def noBs : List Val → Bool
  | [] => true
  | v :: vs => noB v && noBs vs
end
mutual
theorem dat_V (h : Hs) : ∀ (v : Val) (n : Nat), okV v = true → vdep v < n → dat h n v = some (toD v)
  | .non, n + 1, _, _ => by simp only [dat, toD]
  | .bl _, n + 1, _, _ => by simp only [dat, toD]
  | .int _, n + 1, _, _ => by simp only [dat, toD]
  | .str _, n + 1, _, _ => by simp only [dat, toD]
  | .tup vs, n + 1, k, l => by
    rw [okV] at k
    rw [vdep] at l
    simp only [dat, toD]
    rw [dat_Vs h vs n k (by omega)]
    rfl
  | .ref _, n + 1, k, _ => by rw [okV] at k; cases k
  | _, 0, _, l => absurd l (Nat.not_lt_zero _)
theorem dat_Vs (h : Hs) : ∀ (vs : List Val) (n : Nat), okVs vs = true → vdeps vs < n → oall (dat h n) vs = some (toDs vs)
  | [], n, _, _ => by simp only [oall, toDs]
  | v :: vs, n, k, l => by
    rw [okVs, Bool.and_eq_true] at k
    rw [vdeps] at l
    simp only [oall, toDs]
    rw [dat_V h v n k.1 (by omega), dat_Vs h vs n k.2 (by omega)]
end
mutual
theorem lay_V : ∀ v : Val, okV v = true → (toD v).canLay0 = true ∧ (toD v).depth ≤ vdep v ∧ dataOk (toD v) = true
  | .non, _ => by simp [toD, PyData.canLay0, PyData.depth, dataOk]
  | .bl _, _ => by simp [toD, PyData.canLay0, PyData.depth, dataOk]
  | .int _, _ => by simp [toD, PyData.canLay0, PyData.depth, dataOk]
  | .str s, k => by
    rw [okV] at k
    refine ⟨?_, by simp [toD, PyData.depth], by simp [toD, dataOk]⟩
    rw [toD, PyData.canLay0]
    simpa [PyData.strOk] using k
  | .tup vs, k => by
    rw [okV] at k
    obtain ⟨h1, h2, h3⟩ := lay_Vs vs k
    simp [toD, PyData.canLay0, PyData.depth, dataOk, vdep, h1, h2, h3]
  | .ref _, k => by rw [okV] at k; cases k
theorem lay_Vs : ∀ vs : List Val, okVs vs = true → PyData.canLayAll0 (toDs vs) = true ∧ PyData.depthAll (toDs vs) ≤ vdeps vs ∧ dataAll (toDs vs) = true
  | [], _ => by simp [toDs, PyData.canLayAll0, PyData.depthAll, dataAll]
  | v :: vs, k => by
    rw [okVs, Bool.and_eq_true] at k
    obtain ⟨h1, h2, h3⟩ := lay_V v k.1
    obtain ⟨g1, g2, g3⟩ := lay_Vs vs k.2
    simp only [toDs, PyData.canLayAll0, PyData.depthAll, dataAll, vdeps, h1, h3, g1, g3, Bool.and_self, true_and, and_true]
    omega
end
mutual
theorem eqv_beq : ∀ v w : Val, okV v = true → okV w = true → noB v = true → noB w = true → PyData.eqv (toD v) (toD w) = Val.beq v w
  | .non, w, _, kw, _, bw => by cases w <;> simp_all [toD, PyData.eqv, Val.beq, noB, okV]
  | .bl _, _, _, _, b, _ => by rw [noB] at b; cases b
  | .int i, w, _, kw, _, bw => by
    cases w with
    | int j =>
      simp only [toD, PyData.eqv, Val.beq]
      by_cases e : i = j <;> simp [e]
    | _ => simp_all [toD, PyData.eqv, Val.beq, noB, okV]
  | .str s, w, _, kw, _, bw => by
    cases w with
    | str t =>
      simp only [toD, PyData.eqv, Val.beq]
      by_cases e : s = t
      · subst e; simp
      · have : ¬ (⟨s.toArray⟩ : Str) = ⟨t.toArray⟩ := fun q => e (by injection q with q; simpa using q)
        simp [e, this]
    | _ => simp_all [toD, PyData.eqv, Val.beq, noB, okV]
  | .tup vs, w, k, kw, b, bw => by
    cases w with
    | tup ws =>
      rw [okV] at k kw
      rw [noB] at b bw
      simp only [toD, PyData.eqv, Val.beq]
      exact eqv_beqs vs ws k kw b bw
    | _ => simp_all [toD, PyData.eqv, Val.beq, noB, okV]
  | .ref _, _, k, _, _, _ => by rw [okV] at k; cases k
theorem eqv_beqs : ∀ vs ws : List Val, okVs vs = true → okVs ws = true → noBs vs = true → noBs ws = true → PyData.eqvAll (toDs vs) (toDs ws) = Val.beqs vs ws
  | [], [], _, _, _, _ => by simp [toDs, PyData.eqvAll, Val.beqs]
  | [], _ :: _, _, _, _, _ => by simp [toDs, PyData.eqvAll, Val.beqs]
  | _ :: _, [], _, _, _, _ => by simp [toDs, PyData.eqvAll, Val.beqs]
  | v :: vs, w :: ws, k, kw, b, bw => by
    rw [okVs, Bool.and_eq_true] at k kw
    rw [noBs, Bool.and_eq_true] at b bw
    simp only [toDs, PyData.eqvAll, Val.beqs]
    rw [eqv_beq v w k.1 kw.1 b.1 bw.1, eqv_beqs vs ws k.2 kw.2 b.2 bw.2]
end
mutual
theorem beq_iff : ∀ v w : Val, Val.beq v w = true → v = w
  | .non, w, h => by cases w <;> simp_all [Val.beq]
  | .bl _, w, h => by cases w <;> simp_all [Val.beq]
  | .int _, w, h => by cases w <;> simp_all [Val.beq]
  | .str _, w, h => by cases w <;> simp_all [Val.beq]
  | .tup vs, w, h => by
    cases w with
    | tup ws =>
      rw [Val.beq] at h
      rw [beqs_iff vs ws h]
    | _ => simp_all [Val.beq]
  | .ref _, w, h => by cases w <;> simp_all [Val.beq]
theorem beqs_iff : ∀ vs ws : List Val, Val.beqs vs ws = true → vs = ws
  | [], [], _ => rfl
  | [], _ :: _, h => by simp [Val.beqs] at h
  | _ :: _, [], h => by simp [Val.beqs] at h
  | v :: vs, w :: ws, h => by
    rw [Val.beqs, Bool.and_eq_true] at h
    rw [beq_iff v w h.1, beqs_iff vs ws h.2]
end
instance : DecidableEq Val := fun v w => match e : Val.beq v w with
  | true => isTrue (beq_iff v w e)
  | false => isFalse fun q => by rw [q, Val.beq_refl] at e; cases e
theorem beq_dec (v w : Val) : Val.beq v w = decide (v = w) := by
  cases e : Val.beq v w with
  | true => exact (decide_eq_true (beq_iff v w e)).symm
  | false => exact (decide_eq_false fun q => by rw [q, Val.beq_refl] at e; cases e).symm
theorem beqs_dec (v w : List Val) : Val.beqs v w = decide (v = w) := by
  cases e : Val.beqs v w with
  | true => exact (decide_eq_true (beqs_iff v w e)).symm
  | false => exact (decide_eq_false fun q => by rw [q, Val.beqs_refl] at e; cases e).symm
theorem shaped_V {v : Val} (k : okV v = true) (d : vdep v ≤ 10) : SeqAt.shaped (toD v) = true := by
  obtain ⟨h1, h2, h3⟩ := lay_V v k
  unfold SeqAt.shaped
  rw [h1, Bool.true_and, decide_eq_true_eq]
  omega
theorem shaped_Vs {vs : List Val} (k : okVs vs = true) (d : vdeps vs ≤ 10) : SeqAt.shaped (.list (toDs vs)) = true := by
  obtain ⟨h1, h2, h3⟩ := lay_Vs vs k
  unfold SeqAt.shaped
  rw [PyData.canLay0, h1, PyData.depth, Bool.true_and, decide_eq_true_eq]
  omega
theorem deq_V {h : Hs} {v w : Val} (k : okV v = true) (kw : okV w = true) (b : noB v = true) (bw : noB w = true) (d : vdep v ≤ 10) (dw : vdep w ≤ 10) : deq h v w = some (decide (v = w)) := by
  unfold deq
  rw [dat_V h v 12 k (by omega), dat_V h w 12 kw (by omega)]
  simp only [shaped_V k d, shaped_V kw dw, and_self, if_true]
  rw [eqv_beq v w k kw b bw, beq_dec]
theorem deq_refl {h : Hs} {v : Val} (k : okV v = true) (d : vdep v ≤ 10) : deq h v v = some true := by
  unfold deq
  rw [dat_V h v 12 k (by omega)]
  simp only [shaped_V k d, and_self, if_true]
  rw [eqv_refl _ (lay_V v k).2.2]
/-- two tuples -/
theorem eq_tup {h : Hs} {vs ws : List Val} (k : okVs vs = true) (kw : okVs ws = true) (b : noBs vs = true) (bw : noBs ws = true) (d : vdeps vs ≤ 9) (dw : vdeps ws ≤ 9) : eqF h (.tup vs) (.tup ws) = some (decide (vs = ws)) := by
  show deq h (.tup vs) (.tup ws) = _
  rw [deq_V (by rw [okV]; exact k) (by rw [okV]; exact kw) (by rw [noB]; exact b) (by rw [noB]; exact bw) (by rw [vdep]; omega) (by rw [vdep]; omega)]
  congr 1
  by_cases e : vs = ws
  · subst e; simp
  · rw [decide_eq_false e, decide_eq_false fun q => e (by injection q)]
theorem eq_tup_refl {h : Hs} {vs : List Val} (k : okVs vs = true) (d : vdeps vs ≤ 9) : eqF h (.tup vs) (.tup vs) = some true := by
  show deq h (.tup vs) (.tup vs) = _
  exact deq_refl (by rw [okV]; exact k) (by rw [vdep]; omega)
/-- two lists -/
theorem eq_lst {h : Hs} {p q : Nat} {vs ws : List Val} (ep : h[p]? = some (.lst vs)) (eq : h[q]? = some (.lst ws)) (k : okVs vs = true) (kw : okVs ws = true) (b : noBs vs = true) (bw : noBs ws = true) (d : vdeps vs ≤ 9) (dw : vdeps ws ≤ 9) : eqF h (.ref p) (.ref q) = some (decide (vs = ws)) := by
  show deq h (.ref p) (.ref q) = _
  unfold deq
  have d1 : dat h 12 (.ref p) = some (.list (toDs vs)) := by simp only [dat]; rw [ep]; show (oall (dat h 11) vs).map _ = _; rw [dat_Vs h vs 11 k (by omega)]; rfl
  have d2 : dat h 12 (.ref q) = some (.list (toDs ws)) := by simp only [dat]; rw [eq]; show (oall (dat h 11) ws).map _ = _; rw [dat_Vs h ws 11 kw (by omega)]; rfl
  rw [d1, d2]
  simp only [shaped_Vs k (by omega), shaped_Vs kw (by omega), and_self, if_true]
  rw [PyData.eqv, eqv_beqs vs ws k kw b bw, beqs_dec]
theorem eq_lst_refl {h : Hs} {p q : Nat} {vs : List Val} (ep : h[p]? = some (.lst vs)) (eq : h[q]? = some (.lst vs)) (k : okVs vs = true) (d : vdeps vs ≤ 9) : eqF h (.ref p) (.ref q) = some true := by
  show deq h (.ref p) (.ref q) = _
  unfold deq
  have d1 : dat h 12 (.ref p) = some (.list (toDs vs)) := by simp only [dat]; rw [ep]; show (oall (dat h 11) vs).map _ = _; rw [dat_Vs h vs 11 k (by omega)]; rfl
  have d2 : dat h 12 (.ref q) = some (.list (toDs vs)) := by simp only [dat]; rw [eq]; show (oall (dat h 11) vs).map _ = _; rw [dat_Vs h vs 11 k (by omega)]; rfl
  rw [d1, d2]
  simp only [shaped_Vs k (by omega), and_self, if_true]
  rw [PyData.eqv, eqvAll_refl _ (lay_Vs vs k).2.2]
@[simp] theorem okVs_ints (ns : List Int) : okVs (ns.map Val.int) = true := by
  induction ns with
  | nil => rfl
  | cons n ns ih => rw [List.map_cons, okVs, ih]; rfl
@[simp] theorem noBs_ints (ns : List Int) : noBs (ns.map Val.int) = true := by
  induction ns with
  | nil => rfl
  | cons n ns ih => rw [List.map_cons, noBs, ih]; rfl
@[simp] theorem vdeps_ints (ns : List Int) : vdeps (ns.map Val.int) = 0 := by
  induction ns with
  | nil => rfl
  | cons n ns ih => rw [List.map_cons, vdeps, ih]; rfl
theorem okVs_all {vs : List Val} (h : ∀ v ∈ vs, okV v = true) : okVs vs = true := by
  induction vs with
  | nil => rfl
  | cons v vs ih => rw [okVs, h v List.mem_cons_self, ih fun w hw => h w (List.mem_cons_of_mem _ hw)]; rfl
theorem noBs_all {vs : List Val} (h : ∀ v ∈ vs, noB v = true) : noBs vs = true := by
  induction vs with
  | nil => rfl
  | cons v vs ih => rw [noBs, h v List.mem_cons_self, ih fun w hw => h w (List.mem_cons_of_mem _ hw)]; rfl
theorem vdeps_all {vs : List Val} {n : Nat} (h : ∀ v ∈ vs, vdep v ≤ n) : vdeps vs ≤ n := by
  induction vs with
  | nil => exact Nat.zero_le _
  | cons v vs ih =>
    have h1 := h v List.mem_cons_self
    have h2 := ih fun w hw => h w (List.mem_cons_of_mem _ hw)
    rw [vdeps]
    omega
/-- two tuples of numbers -/
theorem eq_ints (h : Hs) (a b : List Int) : eqF h (.tup (a.map Val.int)) (.tup (b.map Val.int)) = some (decide (a = b)) := by
  rw [eq_tup (by simp) (by simp) (by simp) (by simp) (by simp) (by simp)]
  congr 1
  by_cases e : a = b
  · subst e; simp
  · rw [decide_eq_false e, decide_eq_false fun q => e ((List.map_inj_right fun x y q => by injection q).mp q)]
@[simp] theorem lim_s : lim = 16777216 := rfl
@[simp] theorem hlim_s : hlim = 4611686018427387904 := rfl
/-! in, of texts, of data -/
theorem flat_strs (ts : List (List Nat)) : (ts.map Val.str).all flat = true := by
  rw [List.all_map]
  exact List.all_eq_true.mpr fun _ _ => rfl
theorem any_str (ts : List (List Nat)) (o : List Nat) : (ts.map Val.str).any (fun z => eqW z (.str o)) = decide (o ∈ ts) := by
  induction ts with
  | nil => simp
  | cons n ns ih =>
    rw [List.map_cons, List.any_cons, ih]
    simp only [eqW, List.mem_cons]
    by_cases h : n = o
    · simp [h]
    · simp [h, Ne.symm h]
theorem in_lstS {h : Hs} {p : Nat} {ts : List (List Nat)} (e : h[p]? = some (.lst (ts.map Val.str))) (o : List Nat) : inF h (.str o) (.ref p) = some (decide (o ∈ ts)) := by
  simp only [inF, inGen, dctOf, seqOf, inSq, flat_strs, any_str, flat, if_true, and_self, e]
theorem in_tupS (h : Hs) (ts : List (List Nat)) (o : List Nat) : inF h (.str o) (.tup (ts.map Val.str)) = some (decide (o ∈ ts)) := by
  simp only [inF, inGen, dctOf, seqOf, inSq, flat_strs, any_str, flat, if_true, and_self]
theorem any_D {x : Val} (k : okV x = true) (b : noB x = true) : ∀ {vs : List Val}, okVs vs = true → noBs vs = true → ((toDs vs).any fun z => PyData.eqv z (toD x)) = decide (x ∈ vs)
  | [], _, _ => by simp [toDs]
  | v :: vs, kw, bw => by
    rw [okVs, Bool.and_eq_true] at kw
    rw [noBs, Bool.and_eq_true] at bw
    rw [toDs, List.any_cons, any_D k b kw.2 bw.2, eqv_beq v x kw.1 k bw.1 b, beq_dec]
    by_cases e : v = x
    · subst e; simp
    · have e2 : ¬ x = v := fun q => e q.symm
      simp [e, e2]
theorem in_tupD {h : Hs} {x : Val} {vs : List Val} (nf : flat x = false) (k : okV x = true) (b : noB x = true) (d : vdep x ≤ 9) (kw : okVs vs = true) (bw : noBs vs = true) (dw : vdeps vs ≤ 9) : inF h x (.tup vs) = some (decide (x ∈ vs)) := by
  simp only [inF, inGen, dctOf, seqOf, inSq, nf, inDeep, Bool.false_eq_true, false_and, if_false]
  rw [dat_V h x 12 k (by omega), dat_Vs h vs 11 kw (by omega)]
  simp only [shaped_V k (by omega), shaped_Vs kw (by omega), and_self, if_true]
  rw [any_D k b kw bw]
theorem in_lstD {h : Hs} {p : Nat} {x : Val} {vs : List Val} (e : h[p]? = some (.lst vs)) (nf : flat x = false) (k : okV x = true) (b : noB x = true) (d : vdep x ≤ 9) (kw : okVs vs = true) (bw : noBs vs = true) (dw : vdeps vs ≤ 9) : inF h x (.ref p) = some (decide (x ∈ vs)) := by
  simp only [inF, inGen, dctOf, seqOf, inSq, e, nf, inDeep, Bool.false_eq_true, false_and, if_false]
  rw [dat_V h x 12 k (by omega), dat_Vs h vs 11 kw (by omega)]
  simp only [shaped_V k (by omega), shaped_Vs kw (by omega), and_self, if_true]
  rw [any_D k b kw bw]
/-! lengths of texts -/
theorem spl_len (S : List Nat) : ∀ (l : List Nat) (k : Nat) (acc : List Nat), ∀ p ∈ TL.spl S k acc l, p.length ≤ acc.length + l.length
  | [], k, acc, p, hp => by
    rw [TL.spl_nil] at hp
    rw [List.mem_singleton.mp hp]
    simp
  | c :: r, 0, acc, p, hp => by
    rw [TL.spl] at hp
    split at hp
    · rcases List.mem_cons.mp hp with e | hp
      · rw [e]; simp
      · have := spl_len S r _ [] p hp
        simp at this ⊢
        omega
    · have := spl_len S r 0 (acc ++ [c]) p hp
      simp at this ⊢
      omega
  | c :: r, k + 1, acc, p, hp => by
    rw [TL.spl] at hp
    have := spl_len S r k acc p hp
    simp at this ⊢
    omega
theorem spl_many (S : List Nat) : ∀ (l : List Nat) (k : Nat) (acc : List Nat), (TL.spl S k acc l).length ≤ l.length + 1
  | [], k, acc => by rw [TL.spl_nil]; simp
  | c :: r, 0, acc => by
    rw [TL.spl]
    split
    · have := spl_many S r (S.length - 1) []
      simp
      omega
    · have := spl_many S r 0 (acc ++ [c])
      simp
      omega
  | c :: r, k + 1, acc => by
    rw [TL.spl]
    have := spl_many S r k acc
    simp
    omega
theorem joinL_nil : ∀ ts : List (List Nat), TL.joinL [] ts = ts.flatten
  | [] => rfl
  | [p] => by simp [TL.joinL]
  | p :: q :: r => by
    rw [TL.joinL, joinL_nil (q :: r)]
    simp
theorem strip_len (s u : List Nat) : (Txt.stripChars ⟨s.toArray⟩ ⟨u.toArray⟩).cps.toList.length ≤ s.length := by
  have h := PyProof.Rows.len_stripChars ⟨s.toArray⟩ ⟨u.toArray⟩
  have e1 : (Txt.stripChars ⟨s.toArray⟩ ⟨u.toArray⟩).cps.toList.length = (Txt.stripChars ⟨s.toArray⟩ ⟨u.toArray⟩).length := Array.length_toList
  have e2 : (⟨s.toArray⟩ : Str).length = s.length := by show s.toArray.size = _; simp
  omega
theorem strip_mem (s u : List Nat) : ∀ c ∈ (Txt.stripChars ⟨s.toArray⟩ ⟨u.toArray⟩).cps.toList, c ∈ s := by
  intro c hc
  rw [Txt.stripChars, PyProof.Rows.stripBy_eq] at hc
  unfold Builtin.Str.strSub at hc
  rw [Array.toList_extract] at hc
  rw [List.extract_eq_take_drop] at hc
  simpa using List.mem_of_mem_drop (List.mem_of_mem_take hc)
/-! a comprehension whose items draw -/
theorem comp_draw {step : Val → Hs → R (Option Val)} {all : List Val} {r : Hs} {Q : Val → Prop} : ∀ (items acc : List Val) (d : DS) (j : Hs), d.ok → (∀ y ∈ acc, Q y) → acc.length + items.length ≤ 16777216 →
    (∀ v ∈ items, ∀ (d : DS) (acc : List Val) (j : Hs), d.ok → ∃ (y : Val) (d' : DS) (j' : Hs), d'.ok ∧ Q y ∧ step v (d.hs ++ (r ++ (.lst acc :: j))) = .ok (some y) (d'.hs ++ (r ++ (.lst acc :: j')))) →
    ∃ (ys : List Val) (d' : DS) (j' : Hs), d'.ok ∧ (∀ y ∈ ys, Q y) ∧ ys.length = acc.length + items.length ∧ compV step (.vals all) (3 + r.length) items (d.hs ++ (r ++ (.lst acc :: j))) = .ok () (d'.hs ++ (r ++ (.lst ys :: j')))
  | [], acc, d, j, ok, ha, _, _ => ⟨acc, d, j, ok, ha, by simp, by simp [compV, Src.ok]⟩
  | v :: vs, acc, d, j, ok, ha, hl, hs => by
    simp only [List.length_cons] at hl
    obtain ⟨y, d1, j1, ok1, hy, e1⟩ := hs v List.mem_cons_self d acc j ok
    obtain ⟨ys, d2, j2, ok2, h2, l2, e2⟩ := comp_draw (all := all) vs (acc ++ [y]) d1 j1 ok1 (fun z hz => by
      rcases List.mem_append.mp hz with h | h
      · exact ha z h
      · rw [List.mem_singleton.mp h]; exact hy) (by simp; omega) (fun w hw => hs w (List.mem_cons_of_mem _ hw))
    refine ⟨ys, d2, j2, ok2, h2, by rw [l2]; simp; omega, ?_⟩
    have l1 : acc.length < lim := by rw [lim_val]; omega
    rw [← e2]
    simp only [lim_val] at l1
    simp [compV, Src.ok, e1, l1]
theorem lc_draw {C : Calls} {elt : E} {tg : Tg} {it : I} {own : List (Str × Nat)} {st : Sl} {h0 : Hs} {d1 : DS} {r : Hs} {items : List Val} (Q : Val → Prop) (hi : evi C it st h0 = .ok (.vals items) (d1.hs ++ r)) (ok1 : d1.ok)
    (hs : ∀ v ∈ items, ∀ (d : DS) (acc : List Val) (j : Hs), d.ok → ∃ (y : Val) (d' : DS) (j' : Hs), d'.ok ∧ Q y ∧ stepG tg (etc C .none) (ev C elt) (wipeS st (own.map (·.2))) v (d.hs ++ (r ++ (.lst acc :: j))) = .ok (some y) (d'.hs ++ (r ++ (.lst acc :: j')))) (hl : items.length ≤ 16777216) :
    ∃ (ys : List Val) (d' : DS) (j' : Hs), d'.ok ∧ (∀ y ∈ ys, Q y) ∧ ys.length = items.length ∧ ev C (.lc elt tg it .none own) st h0 = .ok (.ref (3 + r.length)) (d'.hs ++ (r ++ (.lst ys :: j'))) := by
  obtain ⟨ys, d', j', ok', h2, l2, e2⟩ := comp_draw (step := stepG tg (etc C .none) (ev C elt) (wipeS st (own.map (·.2)))) (all := items) (r := r) (Q := Q) items [] d1 [] ok1 (fun _ h => absurd h List.not_mem_nil) (by simpa using hl) hs
  refine ⟨ys, d', j', ok', h2, by simpa using l2, ?_⟩
  rw [q_ev_lc, hi, R.bind_ok]
  unfold lcG
  rw [show (Src.vals items).items = items from rfl]
  simp [e2]
theorem eq_ii (h : Hs) (a b : Int) : eqF h (.int a) (.int b) = some (decide (a = b)) := rfl
theorem eq_ss (h : Hs) (a b : List Nat) : eqF h (.str a) (.str b) = some (decide (a = b)) := rfl
/-! signs -/
theorem chars_of {P : Nat → Prop} : ∀ {ys : List Val}, (∀ y ∈ ys, ∃ c, P c ∧ y = .str [c]) → ∃ s : List Nat, ys = s.map (fun c => Val.str [c]) ∧ ∀ c ∈ s, P c
  | [], _ => ⟨[], rfl, fun _ h => absurd h List.not_mem_nil⟩
  | y :: ys, h => by
    obtain ⟨s, e, hp⟩ := chars_of (ys := ys) fun z hz => h z (List.mem_cons_of_mem _ hz)
    obtain ⟨c, hc, rfl⟩ := h y List.mem_cons_self
    exact ⟨c :: s, by rw [e]; rfl, fun x hx => by
      rcases List.mem_cons.mp hx with rfl | hx
      · exact hc
      · exact hp x hx⟩
@[simp] theorem isStrs_chars : ∀ s : List Nat, isStrs (s.map fun c => Val.str [c]) = some (s.map fun c => [c])
  | [] => rfl
  | c :: s => by
    rw [List.map_cons, isStrs, isStrs_chars s]
    rfl
@[simp] theorem isStrs_strs : ∀ ts : List (List Nat), isStrs (ts.map Val.str) = some ts
  | [] => rfl
  | t :: ts => by
    rw [List.map_cons, isStrs, isStrs_strs ts]
    rfl
@[simp] theorem joinL_chars (s : List Nat) : TL.joinL [] (s.map fun c => [c]) = s := by
  rw [joinL_nil]
  induction s with
  | nil => rfl
  | cons c s ih => rw [List.map_cons, List.flatten_cons, ih]; rfl
@[simp] theorem sum_chars (s : List Nat) : ((s.map fun c => [c]).map List.length).sum = s.length := by
  induction s with
  | nil => rfl
  | cons c s ih =>
    rw [List.map_cons, List.map_cons, List.sum_cons, ih]
    simp
    omega
@[simp] theorem sum_ones (s : List Nat) : (s.map (List.length ∘ fun c => [c])).sum = s.length := by
  have := sum_chars s
  rw [List.map_map] at this
  exact this
/-! cuts -/
theorem cutL_to {α : Type} {xs : List α} {a : Int} (h : 0 ≤ a) : cutL xs none (some a) = xs.take a.toNat := by
  unfold cutL
  simp only [HT.sIx]
  rw [if_neg (by omega), List.drop_zero, Nat.sub_zero]
  by_cases l : a.toNat ≤ xs.length
  · rw [Nat.min_eq_left l]
  · rw [Nat.min_eq_right (by omega), List.take_length, List.take_of_length_le (by omega)]
theorem cutL_from {α : Type} {xs : List α} {a : Int} (h : 0 ≤ a) : cutL xs (some a) none = xs.drop a.toNat := by
  unfold cutL
  simp only [HT.sIx]
  rw [if_neg (by omega)]
  by_cases l : a.toNat ≤ xs.length
  · rw [Nat.min_eq_left l, List.take_of_length_le (by rw [List.length_drop]; omega)]
  · rw [Nat.min_eq_right (by omega), List.drop_length, List.take_nil, List.drop_eq_nil_of_le (by omega)]
/-- a short text of plain signs -/
def isW (k : Nat) : Val → Bool
  | .str w => decide (w.length ≤ k) && w.all fun c => decide (c < 128)
  | _ => false
theorem isW_of {k : Nat} {v : Val} (h : isW k v = true) : ∃ w, v = .str w ∧ w.length ≤ k ∧ ∀ c ∈ w, c < 128 := by
  cases v with
  | str w =>
    simp only [isW, Bool.and_eq_true, decide_eq_true_eq, List.all_eq_true] at h
    exact ⟨w, rfl, h.1, h.2⟩
  | _ => cases h
theorem pickW {k : Nat} {xs : List Val} {i : Int} (h : 0 ≤ i) (h2 : i < xs.length) (hx : xs.all (isW k) = true) : ∃ w, atI xs i = some (.str w) ∧ .str w ∈ xs ∧ w.length ≤ k ∧ ∀ c ∈ w, c < 128 := by
  obtain ⟨v, e, hm⟩ := pick h h2
  obtain ⟨w, rfl, h1, h2⟩ := isW_of (List.all_eq_true.mp hx v hm)
  exact ⟨w, e, hm, h1, h2⟩
/-! a statement that goes on -/
def okN (P : Sl → Hs → Prop) (o : O) : Prop := ∃ st h, o = .nx st h ∧ P st h
@[simp] theorem okN_nx (P : Sl → Hs → Prop) (st : Sl) (h : Hs) : okN P (.nx st h) = P st h := by
  refine propext ⟨fun ⟨a, b, e, p⟩ => ?_, fun p => ⟨st, h, rfl, p⟩⟩
  cases e
  exact p
theorem then_assoc (o : O) (f g : Sl → Hs → O) : (o.then f).then g = o.then fun st h => (f st h).then g := by cases o <;> rfl
end MP

set_option maxHeartbeats 0
namespace LK
open PySem PySem.Spec PyProof.Rows L2 MP
def topS (i : Nat) : Stmt := PySem.Challenge.pw_ownanswer_k59_ranges_read.main.body.getD i (.Pass ⟨0, 0, 0, 0⟩)
def f0 : Fn := ⟨none, "lower", ["text"], ["text"],
    .cons (.ret (.pm .lower (.var 0) (.nil))) .nil⟩
def f1 : Fn := ⟨none, "trimmed", ["text"], ["text"],
    .cons (.ret (.pm .stripC (.var 0) (.cons (.str [32, 9]) .nil))) .nil⟩
def f2_l0 : Ss := .cons (.ifs (.and (.cmp .Eq (.var 5) (.var 1)) (.not (.var 3)))
    (.cons (.expr (.pm .append (.var 2) (.cons (.str []) .nil)))
    (.cons (.cont) .nil))
    (.nil))
    (.cons (.augS (.var 2) (.neg (.int 1)) .Add (.var 5))
    (.cons (.ifs (.var 4)
    (.cons (.asg (.nm 4) (.tt false)) .nil)
    (.cons (.ifs (.and (.var 3) (.cmp .Eq (.var 5) (.str [92])))
    (.cons (.asg (.nm 4) (.tt true)) .nil)
    (.cons (.ifs (.cmp .Eq (.var 5) (.str [34]))
    (.cons (.asg (.nm 3) (.not (.var 3))) .nil)
    (.nil)) .nil)) .nil)) .nil))
def f2 : Fn := ⟨none, "cut", ["text", "mark"], ["text", "mark", "parts", "quoted", "escaped", "sign"],
    .cons (.asg (.nm 2) (.lst (.cons (.str []) .nil)))
    (.cons (.asg (.nm 3) (.tt false))
    (.cons (.asg (.nm 4) (.tt false))
    (.cons (.fors (.nm 5) (.val (.var 0)) f2_l0)
    (.cons (.ifs (.var 3)
    (.cons (.ret (.non)) .nil)
    (.nil))
    (.cons (.ret (.var 2)) .nil)))))⟩
def f3_c0 : E := .lc (.call 1 (.cons (.var 2) .nil)) (.nm 2) (.val (.var 1)) (.some (.cmp .NotEq (.call 1 (.cons (.var 2) .nil)) (.str []))) [("part", 2)]
def f3 : Fn := ⟨none, "split_list", ["value"], ["value", "parts", "part"],
    .cons (.asg (.nm 1) (.call 2 (.cons (.var 0) (.cons (.str [44]) .nil))))
    (.cons (.ifs (.cmp .Is (.var 1) (.non))
    (.cons (.ret (.non)) .nil)
    (.nil))
    (.cons (.ret (f3_c0)) .nil))⟩
def f4_l0 : Ss := .cons (.ifs (.cmp .NotIn (.var 1) (.glob 0))
    (.cons (.ret (.tt false)) .nil)
    (.nil)) .nil
def f4 : Fn := ⟨none, "are_digits", ["text"], ["text", "sign"],
    .cons (.fors (.nm 1) (.val (.var 0)) f4_l0)
    (.cons (.ret (.tt true)) .nil)⟩
def f5 : Fn := ⟨none, "read_index", ["text"], ["text"],
    .cons (.ifs (.or (.cmp .Eq (.var 0) (.str [])) (.or (.cmp .Gt (.prim .len (.cons (.var 0) .nil)) (.glob 1)) (.not (.call 4 (.cons (.var 0) .nil)))))
    (.cons (.ret (.neg (.int 1))) .nil)
    (.nil))
    (.cons (.ret (.prim .int (.cons (.var 0) .nil))) .nil)⟩
def f6 : Fn := ⟨none, "read_range", ["element", "size"], ["element", "size", "at", "first", "last"],
    .cons (.asg (.nm 2) (.pm .find (.var 0) (.cons (.str [45]) .nil)))
    (.cons (.ifs (.cmp .Lt (.var 2) (.int 0))
    (.cons (.ret (.non)) .nil)
    (.nil))
    (.cons (.asg (.nm 3) (.call 5 (.cons (.sl (.var 0) .none (.some (.var 2))) .nil)))
    (.cons (.asg (.nm 4) (.call 5 (.cons (.sl (.var 0) (.some (.bin .Add (.var 2) (.int 1))) .none) .nil)))
    (.cons (.ifs (.cmp .Eq (.sl (.var 0) .none (.some (.var 2))) (.str []))
    (.cons (.ifs (.cmp .Lt (.var 4) (.int 0))
    (.cons (.ret (.non)) .nil)
    (.nil))
    (.cons (.ret (.ife (.and (.cmp .Gt (.var 4) (.int 0)) (.cmp .Gt (.var 1) (.int 0))) (.tup (.cons (.prim .max (.cons (.int 0) (.cons (.bin .Sub (.var 1) (.var 4)) .nil))) (.cons (.bin .Sub (.var 1) (.int 1)) .nil))) (.tup (.nil)))) .nil))
    (.nil))
    (.cons (.ifs (.and (.cmp .Eq (.sl (.var 0) (.some (.bin .Add (.var 2) (.int 1))) .none) (.str [])) (.cmp .GtE (.var 3) (.int 0)))
    (.cons (.asg (.nm 4) (.prim .max (.cons (.var 3) (.cons (.bin .Sub (.var 1) (.int 1)) .nil)))) .nil)
    (.nil))
    (.cons (.ifs (.or (.cmp .Lt (.var 3) (.int 0)) (.cmp .Lt (.var 4) (.var 3)))
    (.cons (.ret (.non)) .nil)
    (.nil))
    (.cons (.ret (.ife (.cmp .Lt (.var 3) (.var 1)) (.tup (.cons (.var 3) (.cons (.prim .min (.cons (.var 4) (.cons (.bin .Sub (.var 1) (.int 1)) .nil))) .nil))) (.tup (.nil)))) .nil)))))))⟩
def f7_l0 : Ss := .cons (.asg (.nm 5) (.call 6 (.cons (.var 4) (.cons (.var 1) .nil))))
    (.cons (.ifs (.cmp .Is (.var 5) (.non))
    (.cons (.ret (.non)) .nil)
    (.nil))
    (.cons (.ifs (.cmp .NotEq (.var 5) (.tup (.nil)))
    (.cons (.expr (.pm .append (.var 3) (.cons (.var 5) .nil))) .nil)
    (.nil)) .nil))
def f7 : Fn := ⟨none, "read_ranges", ["value", "size"], ["value", "size", "parts", "found", "element", "pair"],
    .cons (.ifs (.cmp .NotEq (.call 0 (.cons (.sl (.var 0) .none (.some (.int 6))) .nil)) (.str [98, 121, 116, 101, 115, 61]))
    (.cons (.ret (.non)) .nil)
    (.nil))
    (.cons (.asg (.nm 2) (.call 3 (.cons (.sl (.var 0) (.some (.int 6)) .none) .nil)))
    (.cons (.ifs (.or (.cmp .Is (.var 2) (.non)) (.not (.chain .LtE .LtE (.int 1) (.prim .len (.cons (.var 2) .nil)) (.glob 2))))
    (.cons (.ret (.non)) .nil)
    (.nil))
    (.cons (.asg (.nm 3) (.lst (.nil)))
    (.cons (.fors (.nm 4) (.val (.var 2)) f7_l0)
    (.cons (.ret (.var 3)) .nil)))))⟩
def f8_l0 : Ss := .cons (.asg (.nm 1) (.bin .Mod (.prim .int (.cons (.bin .Add (.bin .Add (.bin .Mult (.var 1) (.int 48271)) (.bin .Mod (.prim .abs (.cons (.prim .int (.cons (.var 2) .nil)) .nil)) (.int 65521))) (.int 1)) .nil)) (.int 2147483647))) .nil
def f8_c0 : E := .lc (.prim .abs (.cons (.prim .int (.cons (.var 2) .nil)) .nil)) (.nm 2) (.val (.var 0)) .none [("_law_cell", 2)]
def f8 : Fn := ⟨none, "_law_draw", ["_law_script"], ["_law_script", "_law_seed", "_law_cell"],
    .cons (.asg (.nm 1) (.int 7))
    (.cons (.fors (.nm 2) (.val (.var 0)) f8_l0)
    (.cons (.ret (.lst (.cons (f8_c0) (.cons (.neg (.int 1)) (.cons (.int 0) (.cons (.var 1) .nil)))))) .nil))⟩
def f9 : Fn := ⟨none, "_law_take", ["_law_draw_here", "_law_many"], ["_law_draw_here", "_law_many", "_law_found"],
    .cons (.ifs (.cmp .Eq (.ix (.var 0) (.int 2)) (.int 0))
    (.cons (.sub (.var 0) (.int 1) (.bin .Add (.ix (.var 0) (.int 1)) (.int 1)))
    (.cons (.ifs (.cmp .Lt (.ix (.var 0) (.int 1)) (.prim .len (.cons (.ix (.var 0) (.int 0)) .nil)))
    (.cons (.sub (.var 0) (.int 2) (.ix (.ix (.var 0) (.int 0)) (.ix (.var 0) (.int 1)))) .nil)
    (.nil))
    (.cons (.ifs (.cmp .Eq (.ix (.var 0) (.int 2)) (.int 0))
    (.cons (.sub (.var 0) (.int 3) (.bin .Mod (.prim .int (.cons (.bin .Add (.bin .Mult (.ix (.var 0) (.int 3)) (.int 48271)) (.int 11)) .nil)) (.int 2147483647)))
    (.cons (.sub (.var 0) (.int 2) (.ix (.var 0) (.int 3))) .nil))
    (.nil)) .nil)))
    (.nil))
    (.cons (.asg (.nm 2) (.bin .Mod (.prim .int (.cons (.ix (.var 0) (.int 2)) .nil)) (.var 1)))
    (.cons (.sub (.var 0) (.int 2) (.bin .FloorDiv (.ix (.var 0) (.int 2)) (.var 1)))
    (.cons (.ret (.var 2)) .nil)))⟩
def f10 : Fn := ⟨none, "_law_number", ["_law_draw_here", "_law_size"], ["_law_draw_here", "_law_size", "_law_choice"],
    .cons (.asg (.nm 2) (.call 9 (.cons (.var 0) (.cons (.int 6) .nil))))
    (.cons (.ifs (.cmp .Eq (.var 2) (.int 0))
    (.cons (.ret (.ix (.lst (.cons (.int 0) (.cons (.int 1) (.cons (.int 2) .nil)))) (.call 9 (.cons (.var 0) (.cons (.int 3) .nil))))) .nil)
    (.nil))
    (.cons (.ifs (.cmp .Eq (.var 2) (.int 1))
    (.cons (.ret (.prim .max (.cons (.int 0) (.cons (.bin .Add (.bin .Sub (.var 1) (.int 1)) (.call 9 (.cons (.var 0) (.cons (.int 3) .nil)))) .nil)))) .nil)
    (.nil))
    (.cons (.ifs (.cmp .Eq (.var 2) (.int 2))
    (.cons (.ret (.ix (.lst (.cons (.int 999999999999999) (.cons (.int 1000000000000000) .nil))) (.call 9 (.cons (.var 0) (.cons (.int 2) .nil))))) .nil)
    (.nil))
    (.cons (.ret (.call 9 (.cons (.var 0) (.cons (.bin .Add (.var 1) (.int 3)) .nil)))) .nil))))⟩
def f11 : Fn := ⟨none, "_law_part", ["_law_draw_here", "_law_size"], ["_law_draw_here", "_law_size", "_law_a", "_law_b", "_law_first", "_law_choice", "_law_long_one", "_law_text"],
    .cons (.asg (.nm 2) (.call 10 (.cons (.var 0) (.cons (.var 1) .nil))))
    (.cons (.asg (.nm 3) (.call 10 (.cons (.var 0) (.cons (.var 1) .nil))))
    (.cons (.asg (.nm 4) (.bin .Add (.ix (.lst (.cons (.str []) (.cons (.str [48]) (.cons (.str [48, 48]) .nil)))) (.bin .FloorDiv (.call 9 (.cons (.var 0) (.cons (.int 8) .nil))) (.int 6))) (.prim .str (.cons (.var 2) .nil))))
    (.cons (.asg (.nm 5) (.call 9 (.cons (.var 0) (.cons (.int 12) .nil))))
    (.cons (.asg (.nm 6) (.cmp .Gt (.prim .len (.cons (.var 4) .nil)) (.int 15)))
    (.cons (.ifs (.cmp .Eq (.var 5) (.int 0))
    (.cons (.ret (.tup (.cons (.ix (.lst (.cons (.str [97, 45, 98]) (.cons (.str [45]) (.cons (.str [53]) (.cons (.str [49, 45, 50, 45, 51]) (.cons (.str [45, 45, 49]) (.cons (.str [49, 32, 45, 32, 50]) (.cons (.str [43, 49, 45, 50]) (.cons (.str [120]) .nil))))))))) (.call 9 (.cons (.var 0) (.cons (.int 8) .nil)))) (.cons (.non) .nil)))) .nil)
    (.nil))
    (.cons (.ifs (.cmp .Lt (.var 5) (.int 4))
    (.cons (.ifs (.var 6)
    (.cons (.ret (.tup (.cons (.bin .Add (.var 4) (.str [45])) (.cons (.non) .nil)))) .nil)
    (.nil))
    (.cons (.ret (.tup (.cons (.bin .Add (.var 4) (.str [45])) (.cons (.ife (.cmp .Lt (.var 2) (.var 1)) (.tup (.cons (.var 2) (.cons (.bin .Sub (.var 1) (.int 1)) .nil))) (.tup (.nil))) .nil)))) .nil))
    (.nil))
    (.cons (.ifs (.cmp .Lt (.var 5) (.int 7))
    (.cons (.ifs (.var 6)
    (.cons (.ret (.tup (.cons (.bin .Add (.str [45]) (.var 4)) (.cons (.non) .nil)))) .nil)
    (.nil))
    (.cons (.ret (.tup (.cons (.bin .Add (.str [45]) (.var 4)) (.cons (.ife (.and (.cmp .Gt (.var 2) (.int 0)) (.cmp .Gt (.var 1) (.int 0))) (.tup (.cons (.prim .max (.cons (.int 0) (.cons (.bin .Sub (.var 1) (.var 2)) .nil))) (.cons (.bin .Sub (.var 1) (.int 1)) .nil))) (.tup (.nil))) .nil)))) .nil))
    (.nil))
    (.cons (.asg (.nm 7) (.bin .Add (.bin .Add (.var 4) (.str [45])) (.prim .str (.cons (.var 3) .nil))))
    (.cons (.ifs (.or (.var 6) (.or (.cmp .Gt (.prim .len (.cons (.prim .str (.cons (.var 3) .nil)) .nil)) (.int 15)) (.cmp .Lt (.var 3) (.var 2))))
    (.cons (.ret (.tup (.cons (.var 7) (.cons (.non) .nil)))) .nil)
    (.nil))
    (.cons (.ret (.tup (.cons (.var 7) (.cons (.ife (.cmp .Lt (.var 2) (.var 1)) (.tup (.cons (.var 2) (.cons (.prim .min (.cons (.var 3) (.cons (.bin .Sub (.var 1) (.int 1)) .nil))) .nil))) (.tup (.nil))) .nil)))) .nil))))))))))⟩
def f12_l0 : Ss := .cons (.asg (.nm 11) (.call 11 (.cons (.var 1) (.cons (.var 2) .nil))))
    (.cons (.asg (.nm 12) (.ix (.lst (.cons (.str []) (.cons (.str [32]) (.cons (.str [32, 44]) (.cons (.str [9]) .nil))))) (.call 9 (.cons (.var 1) (.cons (.int 4) .nil)))))
    (.cons (.asg (.nm 4) (.bin .Add (.bin .Add (.bin .Add (.bin .Add (.var 4) (.ife (.cmp .Eq (.var 7) (.int 0)) (.str []) (.str [44]))) (.var 12)) (.ix (.var 11) (.int 0))) (.ix (.lst (.cons (.str []) (.cons (.str [32]) .nil))) (.call 9 (.cons (.var 1) (.cons (.int 2) .nil))))))
    (.cons (.ifs (.cmp .Is (.ix (.var 11) (.int 1)) (.non))
    (.cons (.asg (.nm 6) (.non)) .nil)
    (.cons (.ifs (.and (.cmp .IsNot (.var 6) (.non)) (.cmp .NotEq (.ix (.var 11) (.int 1)) (.tup (.nil))))
    (.cons (.asg (.nm 6) (.bin .Add (.var 6) (.lst (.cons (.ix (.var 11) (.int 1)) .nil)))) .nil)
    (.nil)) .nil)) .nil)))
def f12_l1 : Ss := .cons (.ifs (.not (.chain3 .LtE .LtE .Lt (.int 0) (.var 9) (.var 10) (.var 2)))
    (.cons (.ret (.tt false)) .nil)
    (.nil)) .nil
def f12 : Fn := ⟨none, "law", ["_law_script"], ["_law_script", "_law_draw_here", "_law_size", "_law_many", "_law_text", "_law_good", "_law_due", "_law_k", "_law_actual", "_law_first", "_law_last", "_law_part_here", "_law_blanks"],
    .cons (.asg (.nm 1) (.call 8 (.cons (.var 0) .nil)))
    (.cons (.asg (.nm 2) (.ix (.lst (.cons (.int 0) (.cons (.int 1) (.cons (.int 10) (.cons (.int 1000) (.cons (.call 9 (.cons (.var 1) (.cons (.bin .Pow (.int 10) (.int 15)) .nil))) .nil)))))) (.call 9 (.cons (.var 1) (.cons (.int 5) .nil)))))
    (.cons (.asg (.nm 3) (.ix (.lst (.cons (.int 1) (.cons (.int 2) (.cons (.int 3) (.cons (.int 0) (.cons (.int 20) (.cons (.int 21) (.cons (.bin .Add (.int 1) (.call 9 (.cons (.var 1) (.cons (.int 6) .nil)))) .nil)))))))) (.call 9 (.cons (.var 1) (.cons (.int 7) .nil)))))
    (.cons (.asg (.nm 4) (.ix (.lst (.cons (.str [98, 121, 116, 101, 115, 61]) (.cons (.str [66, 121, 116, 101, 115, 61]) (.cons (.str [66, 89, 84, 69, 83, 61]) (.cons (.str [98, 121, 116, 101, 115, 32, 61]) (.cons (.str [98, 105, 116, 115, 61]) (.cons (.str [98, 121, 116, 101, 115]) .nil))))))) (.prim .max (.cons (.int 0) (.cons (.bin .Sub (.call 9 (.cons (.var 1) (.cons (.int 12) .nil))) (.int 6)) .nil)))))
    (.cons (.asg (.nm 5) (.cmp .Eq (.pm .lower (.var 4) (.nil)) (.str [98, 121, 116, 101, 115, 61])))
    (.cons (.asg (.nm 6) (.lst (.nil)))
    (.cons (.fors (.nm 7) (.rng1 (.var 3)) f12_l0)
    (.cons (.ifs (.or (.not (.var 5)) (.not (.chain .LtE .LtE (.int 1) (.var 3) (.int 20))))
    (.cons (.asg (.nm 6) (.non)) .nil)
    (.nil))
    (.cons (.asg (.nm 8) (.call 7 (.cons (.var 4) (.cons (.var 2) .nil))))
    (.cons (.ifs (.cmp .Is (.var 6) (.non))
    (.cons (.ret (.cmp .Is (.var 8) (.non))) .nil)
    (.nil))
    (.cons (.ifs (.or (.not (.isi (.var 8) .list)) (.cmp .NotEq (.var 8) (.var 6)))
    (.cons (.ret (.tt false)) .nil)
    (.nil))
    (.cons (.fors (.tup [9, 10]) (.val (.var 8)) f12_l1)
    (.cons (.ret (.tt true)) .nil))))))))))))⟩
def G : Tab := ⟨[f0, f1, f2, f3, f4, f5, f6, f7, f8, f9, f10, f11, f12],
  [],
  [("DIGITS", .str [48, 49, 50, 51, 52, 53, 54, 55, 56, 57]), ("MOST_DIGITS", .int (15)), ("MOST_RANGES", .int (20))],
  [],
  ["len", "int", "max", "min", "abs", "str", "range", "isinstance", "list"]⟩
def ds : List He.DefD := [
  ⟨("lower", none), "lower", "lower", defArgs (topS 1), defBody (topS 1), defScope (topS 1), [], []⟩,
  ⟨("trimmed", none), "trimmed", "trimmed", defArgs (topS 2), defBody (topS 2), defScope (topS 2), [], []⟩,
  ⟨("cut", none), "cut", "cut", defArgs (topS 5), defBody (topS 5), defScope (topS 5), [], []⟩,
  ⟨("split_list", none), "split_list", "split_list", defArgs (topS 6), defBody (topS 6), defScope (topS 6), [], []⟩,
  ⟨("are_digits", none), "are_digits", "are_digits", defArgs (topS 7), defBody (topS 7), defScope (topS 7), [], []⟩,
  ⟨("read_index", none), "read_index", "read_index", defArgs (topS 11), defBody (topS 11), defScope (topS 11), [], []⟩,
  ⟨("read_range", none), "read_range", "read_range", defArgs (topS 12), defBody (topS 12), defScope (topS 12), [], []⟩,
  ⟨("read_ranges", none), "read_ranges", "read_ranges", defArgs (topS 13), defBody (topS 13), defScope (topS 13), [], []⟩,
  ⟨("_law_draw", none), "_law_draw", "_law_draw", defArgs (topS 15), defBody (topS 15), defScope (topS 15), [], []⟩,
  ⟨("_law_take", none), "_law_take", "_law_take", defArgs (topS 16), defBody (topS 16), defScope (topS 16), [], []⟩,
  ⟨("_law_number", none), "_law_number", "_law_number", defArgs (topS 17), defBody (topS 17), defScope (topS 17), [], []⟩,
  ⟨("_law_part", none), "_law_part", "_law_part", defArgs (topS 18), defBody (topS 18), defScope (topS 18), [], []⟩,
  ⟨("law", none), "law", "law", defArgs (topS 19), defBody (topS 19), defScope (topS 19), [], []⟩]
theorem ct : chkTab G ds = true := by kernel_rfl
theorem bs : Bs G.fns ds := .cons (fun _ _ _ _ _ _ us hl => match us, hl with | [_], _ => rfl) (.cons (fun _ _ _ _ _ _ us hl => match us, hl with | [_], _ => rfl) (.cons (fun _ _ _ _ _ _ us hl => match us, hl with | [_, _], _ => rfl) (.cons (fun _ _ _ _ _ _ us hl => match us, hl with | [_], _ => rfl) (.cons (fun _ _ _ _ _ _ us hl => match us, hl with | [_], _ => rfl) (.cons (fun _ _ _ _ _ _ us hl => match us, hl with | [_], _ => rfl) (.cons (fun _ _ _ _ _ _ us hl => match us, hl with | [_, _], _ => rfl) (.cons (fun _ _ _ _ _ _ us hl => match us, hl with | [_, _], _ => rfl) (.cons (fun _ _ _ _ _ _ us hl => match us, hl with | [_], _ => rfl) (.cons (fun _ _ _ _ _ _ us hl => match us, hl with | [_, _], _ => rfl) (.cons (fun _ _ _ _ _ _ us hl => match us, hl with | [_, _], _ => rfl) (.cons (fun _ _ _ _ _ _ us hl => match us, hl with | [_, _], _ => rfl) (.cons (fun _ _ _ _ _ _ us hl => match us, hl with | [_], _ => rfl) .nil))))))))))))
abbrev hk : PySem.W.Hook := hookM 5 G ds
def ob (s : PySem.W.SharedT) : AlM := obsM 5 G ds (HandSHeadRun.getT s)
theorem ob_eq (s : PySem.W.SharedT) : ob s = hk.obs s.abs := obsM_eq (HandSHeadRun.getT_eq s)
abbrev RR : PySem.W.OpenRow := PySem.W.OpenLaw.row PySem.Challenge.rw_ownanswer_k59_ranges_read
def loose : List Str := ["lower", "trimmed", "DIGITS", "cut", "split_list", "are_digits", "MOST_DIGITS", "MOST_RANGES", "read_index", "read_range", "read_ranges", "_law_draw", "_law_take", "_law_number", "_law_part"]
theorem run (w : World) : HandSHeadRun.RunEq RR (PySem.W.view RR.prog [19]) hk ob 3000 loose w := by
  intro os
  kernel_rfl
def script (ns : List Int) : Hs := [.frz (ns.map Val.int)]
def lawF (n : Nat) (ns : List Int) : R Val := callN G n 12 [.ref 0] (script ns)
theorem finish (k : Nat) (hr : Room (k + 1) callerA) (H : ∀ ns : List Int, ns.length ≤ 63 → ∃ h', lawF k ns = .ok (.bl true) h') : PySem.Challenge.rw_ownanswer_k59_ranges_read.Holds := by
  w_on; o_law
  refine HandSHeadRun.head_any (r := RR) (q := PySem.W.view RR.prog [19]) (H := hk) (ob := ob) (M := 3000) (loose := loose) (d := HandSHeadRun.topDef RR.prog 19) (kwd := []) ob_eq
    (by kernel_rfl) (fun s => by kernel_rfl) run (by kernel_rfl) (by kernel_rfl) (by kernel_rfl) (by rfl) (by first | assumption | decide +kernel) (by decide +kernel) ⟨rfl, rfl, rfl, rfl, rfl, by decide +kernel⟩ ?hw ?hc
  case hw => w_witness2
  case hc => exact walk_mp (l := PySem.Challenge.rw_ownanswer_k59_ranges_read) (n := 63) (k := k) (f0 := 12) (d0 := f12) (x := "_law_script") (G := G) (ds := ds) rfl (by decide) (by kernel_rfl) hr rfl rfl (by kernel_rfl) rfl ct bs fun ns h1 h2 => H ns h1
end LK
namespace LK
open PySem PySem.Spec L2 MP
def bl (c : Nat) : Bool := c == 32 || c == 9
def trimG (g : Nat → Bool) (s : List Nat) : List Nat := ((s.dropWhile g).reverse.dropWhile g).reverse
def trimL (s : List Nat) : List Nat := trimG bl s
theorem rev_split (g : Nat → Bool) (s : List Nat) : s = (s.reverse.dropWhile g).reverse ++ (s.reverse.takeWhile g).reverse := by
  rw [← List.reverse_append, List.takeWhile_append_dropWhile, List.reverse_reverse]
theorem rev_take (g : Nat → Bool) (s : List Nat) : (s.reverse.dropWhile g).reverse = s.take (s.length - (s.reverse.takeWhile g).length) := by
  have h := rev_split g s
  have l : (s.reverse.dropWhile g).reverse.length = s.length - (s.reverse.takeWhile g).length := by
    have := congrArg List.length h
    simp only [List.length_append, List.length_reverse] at this ⊢
    omega
  rw [← l]
  generalize (s.reverse.dropWhile g).reverse = a at h ⊢
  rw [h, List.take_left']
  rfl
theorem drop_take (g : Nat → Bool) : ∀ s : List Nat, s.drop (s.takeWhile g).length = s.dropWhile g
  | [] => rfl
  | c :: s => by
    by_cases h : g c = true
    · rw [List.takeWhile_cons_of_pos h, List.dropWhile_cons_of_pos h, List.length_cons, List.drop_succ_cons, drop_take g s]
    · rw [List.takeWhile_cons_of_neg h, List.dropWhile_cons_of_neg h]
      rfl
theorem strip_gen (s u : List Nat) : (Txt.stripChars ⟨s.toArray⟩ ⟨u.toArray⟩).cps.toList = trimG u.toArray.contains s := by
  rw [Txt.stripChars, PyProof.Rows.stripBy_eq]
  unfold Builtin.Str.strSub
  rw [Array.toList_extract, List.extract_eq_take_drop]
  simp only [stripLo, stripHi, if_true]
  have hs : (⟨s.toArray⟩ : Str).length = s.length := by show s.toArray.size = _; simp
  rw [hs]
  have d := drop_take u.toArray.contains s
  have l : s.length = (s.takeWhile u.toArray.contains).length + (s.dropWhile u.toArray.contains).length := by
    have := congrArg List.length (List.takeWhile_append_dropWhile (p := fun c => u.toArray.contains c) (l := s))
    rw [List.length_append] at this
    exact this.symm
  unfold trimG
  rw [rev_take, ← d]
  rw [← d] at l
  generalize (s.takeWhile u.toArray.contains).length = k at l ⊢
  congr 1
  simp only [List.length_drop] at l ⊢
  omega
theorem bl_eq : ([32, 9] : List Nat).toArray.contains = bl := by
  funext c
  by_cases h : c = 32 <;> by_cases h2 : c = 9 <;> simp [bl, h, h2]
theorem trim_lead {g : Nat → Bool} {b : Nat} (h : g b = true) (p : List Nat) : trimG g (b :: p) = trimG g p := by
  unfold trimG
  rw [List.dropWhile_cons_of_pos h]
theorem drop_app (g : Nat → Bool) (b : Nat) (h : g b = true) : ∀ p : List Nat, (p ++ [b]).dropWhile g = if p.all g = true then [] else p.dropWhile g ++ [b]
  | [] => by simp [h]
  | c :: p => by
    rw [List.cons_append]
    by_cases hc : g c = true
    · rw [List.dropWhile_cons_of_pos hc, List.dropWhile_cons_of_pos hc, drop_app g b h p, List.all_cons, hc, Bool.true_and]
    · rw [List.dropWhile_cons_of_neg hc, List.dropWhile_cons_of_neg hc, List.all_cons]
      simp [hc]
theorem drop_all (g : Nat → Bool) : ∀ p : List Nat, p.all g = true → p.dropWhile g = []
  | [], _ => rfl
  | c :: p, h => by
    rw [List.all_cons, Bool.and_eq_true] at h
    rw [List.dropWhile_cons_of_pos h.1, drop_all g p h.2]
theorem trim_trail {g : Nat → Bool} {b : Nat} (h : g b = true) (p : List Nat) : trimG g (p ++ [b]) = trimG g p := by
  unfold trimG
  rw [drop_app g b h p]
  by_cases a : p.all g = true
  · rw [if_pos a, drop_all g p a]
  · rw [if_neg a, List.reverse_append, List.reverse_singleton, List.singleton_append, List.dropWhile_cons_of_pos h]
theorem trim_decomp (g : Nat → Bool) (s : List Nat) : ∃ l r, s = l ++ (trimG g s ++ r) ∧ (∀ c ∈ l, g c = true) ∧ ∀ c ∈ r, g c = true := by
  refine ⟨s.takeWhile g, ((s.dropWhile g).reverse.takeWhile g).reverse, ?_, fun c hc => ?_, fun c hc => ?_⟩
  · unfold trimG
    rw [← rev_split, List.takeWhile_append_dropWhile]
  · exact List.all_eq_true.mp (List.all_takeWhile) c hc
  · rw [List.mem_reverse] at hc
    exact List.all_eq_true.mp (List.all_takeWhile) c hc
def cutA (m : Nat) : Bool → Bool → List Nat → List Nat → Option (List (List Nat))
  | q, _, cur, [] => if q = true then none else some [cur]
  | q, e, cur, c :: r => if c = m ∧ q = false then (cutA m q e [] r).map (cur :: ·) else if e = true then cutA m q false (cur ++ [c]) r else if q = true ∧ c = 92 then cutA m q true (cur ++ [c]) r else if c = 34 then cutA m (!q) e (cur ++ [c]) r else cutA m q e (cur ++ [c]) r
theorem cut_loop (C : Calls) (h : Hs) (all : List Val) (m : Nat) (s0 : Option Val) : ∀ (s cur : List Nat) (done : List (List Nat)) (q e : Bool) (o5 : Option Val), (∀ x ∈ done, x.length ≤ 5000) → cur.length + s.length ≤ 5000 → done.length + s.length ≤ 5000 →
    (∀ ps, cutA m q e cur s = some ps → ∃ e' t, forV (forK (.nm 5) (exs C f2_l0)) (.vals all) (s.map fun c => .str [c]) [s0, some (.str [m]), some (.ref h.length), some (.bl q), some (.bl e), o5] (h ++ [.lst ((done ++ [cur]).map Val.str)]) =
      .nx [s0, some (.str [m]), some (.ref h.length), some (.bl false), some (.bl e'), t] (h ++ [.lst ((done ++ ps).map Val.str)])) ∧
    (cutA m q e cur s = none → ∃ e' t L, forV (forK (.nm 5) (exs C f2_l0)) (.vals all) (s.map fun c => .str [c]) [s0, some (.str [m]), some (.ref h.length), some (.bl q), some (.bl e), o5] (h ++ [.lst ((done ++ [cur]).map Val.str)]) =
      .nx [s0, some (.str [m]), some (.ref h.length), some (.bl true), some (.bl e'), t] (h ++ [L]))
  | [], cur, done, q, e, o5, hd, h1, h2 => by
    cases q with
    | true => exact ⟨fun ps hp => by simp [cutA] at hp, fun _ => ⟨e, o5, .lst ((done ++ [cur]).map Val.str), by simp only [List.map_nil, forV, Src.ok, if_true]⟩⟩
    | false => exact ⟨fun ps hp => by simp [cutA] at hp; subst hp; exact ⟨e, o5, by simp only [List.map_nil, forV, Src.ok, if_true]⟩, fun hp => by simp [cutA] at hp⟩
  | c :: s, cur, done, q, e, o5, hd, h1, h2 => by
    simp only [List.length_cons] at h1 h2
    have l1 : done.length + 1 < 16777216 := by omega
    have l2 : cur.length + 1 ≤ 16777216 := by omega
    have gl : atI ((done ++ [cur]).map Val.str) (-1) = some (.str cur) := by rw [atI_neg1]; simp
    have ix : ixN ((done ++ [cur]).map Val.str).length (-1) = some done.length := by
      unfold ixN
      rw [if_neg (by decide), if_pos (by simp; omega)]
      congr 1
      simp
      omega
    have st : ∀ v, ((done ++ [cur]).map Val.str).set done.length v = done.map Val.str ++ [v] := fun v => by
      rw [List.map_append, List.set_append_right _ _ (by simp)]
      simp
    by_cases c1 : c = m ∧ q = false
    · obtain ⟨rfl, rfl⟩ := c1
      have ih := cut_loop C h all c s0 s [] (done ++ [cur]) false e (some (.str [c])) (fun x hx => by
        rcases List.mem_append.mp hx with h | h
        · exact hd x h
        · rw [List.mem_singleton.mp h]; omega) (by simp; omega) (by simp; omega)
      have ec : cutA c false e cur (c :: s) = (cutA c false e [] s).map (cur :: ·) := by rw [cutA, if_pos ⟨rfl, rfl⟩]
      rw [ec]
      have step : forV (forK (.nm 5) (exs C f2_l0)) (.vals all) ((c :: s).map fun c => .str [c]) [s0, some (.str [c]), some (.ref h.length), some (.bl false), some (.bl e), o5] (h ++ [.lst ((done ++ [cur]).map Val.str)]) = forV (forK (.nm 5) (exs C f2_l0)) (.vals all) (s.map fun c => .str [c]) [s0, some (.str [c]), some (.ref h.length), some (.bl false), some (.bl e), some (.str [c])] (h ++ [.lst ((done ++ [cur] ++ [[]]).map Val.str)]) := by
        simp [forV, Src.ok, forK, f2_l0, l1]
      rw [step]
      refine ⟨fun ps hp => ?_, fun hp => ?_⟩
      · cases q : cutA c false e [] s with
        | none => rw [q] at hp; cases hp
        | some ps' =>
          rw [q] at hp
          cases hp
          obtain ⟨e', t, w⟩ := ih.1 ps' q
          exact ⟨e', t, by rw [w]; simp⟩
      · cases q : cutA c false e [] s with
        | none => exact ih.2 q
        | some ps' => rw [q] at hp; cases hp
    · have one : ∀ (q' e' : Bool), (if e = true then (q, false) else if q = true ∧ c = 92 then (q, true) else if c = 34 then (!q, e) else (q, e)) = (q', e') → cutA m q e cur (c :: s) = cutA m q' e' (cur ++ [c]) s ∧
          forV (forK (.nm 5) (exs C f2_l0)) (.vals all) ((c :: s).map fun c => .str [c]) [s0, some (.str [m]), some (.ref h.length), some (.bl q), some (.bl e), o5] (h ++ [.lst ((done ++ [cur]).map Val.str)]) = forV (forK (.nm 5) (exs C f2_l0)) (.vals all) (s.map fun c => .str [c]) [s0, some (.str [m]), some (.ref h.length), some (.bl q'), some (.bl e'), some (.str [c])] (h ++ [.lst ((done ++ [cur ++ [c]]).map Val.str)]) := fun q' e' hq => by
        refine ⟨?_, ?_⟩
        · rw [cutA, if_neg c1]
          split at hq
          · rename_i h; cases hq; rw [if_pos h]
          · rename_i h
            rw [if_neg h]
            split at hq
            · rename_i h; cases hq; rw [if_pos h]
            · rename_i h
              rw [if_neg h]
              split at hq
              · rename_i h; cases hq; rw [if_pos h]
              · rename_i h; cases hq; rw [if_neg h]
        · have cm : q = true ∨ ¬ c = m := by
            cases q with
            | true => exact .inl rfl
            | false => exact .inr fun h => c1 ⟨h, rfl⟩
          generalize (done ++ [cur]).map Val.str = V at gl ix st ⊢
          have e2 : (done ++ [cur ++ [c]]).map Val.str = done.map Val.str ++ [.str (cur ++ [c])] := by simp
          rw [e2]
          cases q <;> cases e <;> by_cases c3 : c = 92 <;> by_cases c4 : c = 34 <;> simp_all [forV, Src.ok, forK, f2_l0]
      obtain ⟨q', e', hq⟩ : ∃ q' e', (if e = true then (q, false) else if q = true ∧ c = 92 then (q, true) else if c = 34 then (!q, e) else (q, e)) = (q', e') := ⟨_, _, rfl⟩
      obtain ⟨o1, o2⟩ := one q' e' hq
      rw [o1, o2]
      exact cut_loop C h all m s0 s (cur ++ [c]) done q' e' (some (.str [c])) hd (by simp; omega) (by omega)
theorem cut_eq (n : Nat) (h : Hs) (s : List Nat) (m : Nat) (hl : s.length ≤ 5000) :
    (∀ ps, cutA m false false [] s = some ps → callN G (n + 1) 2 [.str s, .str [m]] h = .ok (.ref h.length) (h ++ [.lst (ps.map Val.str)])) ∧
    (cutA m false false [] s = none → ∃ L, callN G (n + 1) 2 [.str s, .str [m]] h = .ok .non (h ++ [L])) := by
  rw [callN_eq (d := f2) rfl]
  obtain ⟨a1, a2⟩ := cut_loop (callsN G n) h (s.map fun c => .str [c]) m (some (.str s)) s [] [] false false none (fun _ h => absurd h List.not_mem_nil) (by simp; omega) (by simp; omega)
  refine ⟨fun ps hp => ?_, fun hp => ?_⟩
  · obtain ⟨e', t, w⟩ := a1 ps hp
    simp at w
    simp [f2, w]
  · obtain ⟨e', t, L, w⟩ := a2 hp
    simp at w
    exact ⟨L, by simp [f2, w]⟩
theorem trim_eq (n : Nat) (h : Hs) (s : List Nat) (hl : s.length ≤ 5000) : callN G (n + 1) 1 [.str s] h = .ok (.str (trimL s)) h := by
  rw [callN_eq (d := f1) rfl]
  have l1 : s.length ≤ 16777216 := by omega
  have e := strip_gen s [32, 9]
  rw [bl_eq] at e
  have e' : (Txt.stripChars ⟨s.toArray⟩ ⟨#[32, 9]⟩).cps.toList = trimL s := e
  simp [f1, l1, e']
theorem trim_len (s : List Nat) : (trimL s).length ≤ s.length := by
  obtain ⟨l, r, e, _, _⟩ := trim_decomp bl s
  have := congrArg List.length e
  simp only [List.length_append] at this
  show (trimG bl s).length ≤ _
  omega
theorem cut_head (m : Nat) : ∀ (s : List Nat) (q e : Bool) (a cur : List Nat), cutA m q e (a ++ cur) s = (cutA m q e cur s).map fun ps => match ps with | [] => [] | p :: r => (a ++ p) :: r
  | [], q, e, a, cur => by
    rw [cutA, cutA]
    cases q <;> simp
  | c :: s, q, e, a, cur => by
    rw [cutA, cutA]
    by_cases c1 : c = m ∧ q = false
    · rw [if_pos c1, if_pos c1, Option.map_map]
      rfl
    · rw [if_neg c1, if_neg c1]
      by_cases c2 : e = true
      · rw [if_pos c2, if_pos c2, List.append_assoc, cut_head m s]
      · rw [if_neg c2, if_neg c2]
        by_cases c3 : q = true ∧ c = 92
        · rw [if_pos c3, if_pos c3, List.append_assoc, cut_head m s]
        · rw [if_neg c3, if_neg c3]
          by_cases c4 : c = 34
          · rw [if_pos c4, if_pos c4, List.append_assoc, cut_head m s]
          · rw [if_neg c4, if_neg c4, List.append_assoc, cut_head m s]
def trims (o : Option (List (List Nat))) : Option (List (List Nat)) := o.map fun ps => ps.map trimL
def CT (m : Nat) (s : List Nat) : Option (List (List Nat)) := trims (cutA m false false [] s)
def runA (m : Nat) : Bool → Bool → List Nat → Option (Bool × Bool)
  | q, e, [] => some (q, e)
  | q, e, c :: r => if c = m ∧ q = false then none else if e = true then runA m q false r else if q = true ∧ c = 92 then runA m q true r else if c = 34 then runA m (!q) e r else runA m q e r
theorem run_thru (m : Nat) : ∀ (p : List Nat) (q e q' e' : Bool) (cur rest : List Nat), runA m q e p = some (q', e') → cutA m q e cur (p ++ rest) = cutA m q' e' (cur ++ p) rest
  | [], q, e, q', e', cur, rest, h => by
    rw [runA] at h
    cases h
    simp
  | c :: p, q, e, q', e', cur, rest, h => by
    rw [runA] at h
    rw [List.cons_append, cutA]
    have ea : ∀ x : List Nat, cur ++ c :: p = (cur ++ [c]) ++ p := fun _ => by simp
    rw [ea []]
    by_cases c1 : c = m ∧ q = false
    · rw [if_pos c1] at h; cases h
    · rw [if_neg c1] at h ⊢
      by_cases c2 : e = true
      · rw [if_pos c2] at h ⊢
        exact run_thru m p _ _ _ _ _ rest h
      · rw [if_neg c2] at h ⊢
        by_cases c3 : q = true ∧ c = 92
        · rw [if_pos c3] at h ⊢
          exact run_thru m p _ _ _ _ _ rest h
        · rw [if_neg c3] at h ⊢
          by_cases c4 : c = 34
          · rw [if_pos c4] at h ⊢
            exact run_thru m p _ _ _ _ _ rest h
          · rw [if_neg c4] at h ⊢
            exact run_thru m p _ _ _ _ _ rest h
theorem cut_sum (m : Nat) : ∀ (s : List Nat) (q e : Bool) (cur : List Nat) (ps : List (List Nat)), cutA m q e cur s = some ps → ∀ p ∈ ps, p.length ≤ cur.length + s.length
  | [], q, e, cur, ps, h, p, hp => by
    rw [cutA] at h
    split at h
    · cases h
    · cases h
      rw [List.mem_singleton.mp hp]
      simp
  | c :: s, q, e, cur, ps, h, p, hp => by
    rw [cutA] at h
    have key : ∀ q' e', cutA m q' e' (cur ++ [c]) s = some ps → p.length ≤ cur.length + (c :: s).length := fun q' e' h => by
      have := cut_sum m s q' e' _ ps h p hp
      simp at this ⊢
      omega
    split at h
    · cases hq : cutA m q e [] s with
      | none => rw [hq] at h; cases h
      | some ps' =>
        rw [hq] at h
        cases h
        rcases List.mem_cons.mp hp with rfl | hp
        · simp
        · have := cut_sum m s q e [] ps' hq p hp
          simp at this ⊢
          omega
    · split at h
      · exact key _ _ h
      · split at h
        · exact key _ _ h
        · split at h
          · exact key _ _ h
          · exact key _ _ h
def gS (v : Val) : Option Val := match v with
  | .str p => if trimL p ≠ [] then some (.str (trimL p)) else none
  | _ => none
def full (L : List (List Nat)) : List (List Nat) := L.filter fun p => decide (p ≠ [])
theorem gS_map : ∀ ps : List (List Nat), (ps.map Val.str).filterMap gS = (full (ps.map trimL)).map Val.str
  | [] => rfl
  | p :: ps => by
    have ih := gS_map ps
    by_cases h : trimL p = []
    · rw [List.map_cons, List.filterMap_cons_none (f := gS) (by simp [gS, h]), ih]
      simp [full, h]
    · rw [List.map_cons, List.filterMap_cons_some (f := gS) (b := .str (trimL p)) (by simp [gS, h]), ih]
      simp [full, h]
theorem split_eq (h : Hs) (V : List Nat) (hV : V.length ≤ 4000) :
    (∀ L, CT 44 V = some L → ∃ (j : Hs) (q : Nat), callN G 6 3 [.str V] h = .ok (.ref q) (h ++ j) ∧ (h ++ j)[q]? = some (.lst ((full L).map Val.str))) ∧
    (CT 44 V = none → ∃ j, callN G 6 3 [.str V] h = .ok .non (h ++ j)) := by
  have fe : (callsN G 5).f = callN G 5 := rfl
  obtain ⟨c1, c2⟩ := cut_eq 4 h V 44 (by omega)
  unfold CT trims
  cases q : cutA 44 false false [] V with
  | none =>
    refine ⟨fun L h => (by cases h), fun _ => ?_⟩
    obtain ⟨L, w⟩ := c2 q
    exact ⟨[L], by rw [callN_eq (d := f3) rfl]; simp [f3, fe, w]⟩
  | some ps =>
    refine ⟨fun L hL => ?_, fun h => (by cases h)⟩
    have w := c1 ps q
    have hL' : ps.map trimL = L := Option.some.inj hL
    subst hL'
    have pl := cut_sum 44 V false false [] _ q
    have pm : ps.length ≤ 5000 := by
      have k : ∀ (s : List Nat) (q e : Bool) (cur : List Nat) (ps : List (List Nat)), cutA 44 q e cur s = some ps → ps.length ≤ s.length + 1 := fun s => by
        induction s with
        | nil =>
          intro q e cur ps h
          rw [cutA] at h
          split at h
          · cases h
          · cases h; simp
        | cons c s ih =>
          intro q e cur ps h
          rw [cutA] at h
          split at h
          · cases hq : cutA 44 q e [] s with
            | none => rw [hq] at h; cases h
            | some ps' =>
              rw [hq] at h
              cases h
              have := ih q e [] ps' hq
              simp
              omega
          · have key : ∀ q' e', cutA 44 q' e' (cur ++ [c]) s = some ps → ps.length ≤ (c :: s).length + 1 := fun q' e' h => by
              have := ih q' e' _ ps h
              simp
              omega
            split at h
            · exact key _ _ h
            · split at h
              · exact key _ _ h
              · split at h
                · exact key _ _ h
                · exact key _ _ h
      have := k V false false [] ps q
      omega
    have P := comp_pure (src := .lst h.length (ps.map Val.str)) (n := (h ++ [Ob.lst (ps.map Val.str)]).length) (h0 := h ++ [Ob.lst (ps.map Val.str)]) (g := gS)
      (step := stepG (.nm 2) (etc (callsN G 5) (.some (.cmp .NotEq (.call 1 (.cons (.var 2) .nil)) (.str [])))) (ev (callsN G 5) (.call 1 (.cons (.var 2) .nil))) (wipeS [some (.str V), some (.ref h.length), none] [2])) rfl (fun acc => by simp [Src.ok]) (ps.map Val.str) [] (fun u hu acc => by
        obtain ⟨p, hp, rfl⟩ := List.mem_map.mp hu
        have := pl p hp
        have te := fun h => trim_eq 4 h p (by simp at this; omega)
        by_cases c : trimL p = [] <;> simp [wipeS, gS, fe, te, c]) (by rw [List.length_map, lim_val]; simp; omega)
    rw [List.nil_append, gS_map] at P
    refine ⟨[.lst (ps.map Val.str), .lst ((full (ps.map trimL)).map Val.str)], h.length + 1, ?_, by rw [app_get]; rfl⟩
    rw [callN_eq (d := f3) rfl]
    generalize (full (ps.map trimL)).map Val.str = Q at P ⊢
    generalize ps.map Val.str = A at w P ⊢
    simp only [wipeS] at P
    simp at P
    simp [f3, f3_c0, fe, w, lcG, wipeS, P]
theorem run_app (m : Nat) : ∀ (a b : List Nat) (q e q' e' : Bool), runA m q e a = some (q', e') → runA m q e (a ++ b) = runA m q' e' b
  | [], b, q, e, q', e', h => by
    rw [runA] at h
    cases h
    rfl
  | c :: a, b, q, e, q', e', h => by
    rw [runA] at h
    rw [List.cons_append, runA]
    split at h
    · cases h
    · rename_i h1
      rw [if_neg h1]
      split at h
      · rename_i h2; rw [if_pos h2]; exact run_app m a b _ _ _ _ h
      · rename_i h2
        rw [if_neg h2]
        split at h
        · rename_i h3; rw [if_pos h3]; exact run_app m a b _ _ _ _ h
        · rename_i h3
          rw [if_neg h3]
          split at h
          · rename_i h4; rw [if_pos h4]; exact run_app m a b _ _ _ _ h
          · rename_i h4; rw [if_neg h4]; exact run_app m a b _ _ _ _ h
def FC (cur s : List Nat) : Option (List (List Nat)) := (cutA 44 false false cur s).map fun ps => full (ps.map trimL)
theorem FC_nil : FC [] [] = some [] := rfl
theorem FC_bl (s : List Nat) : FC [32] s = FC [] s := by
  unfold FC
  have := cut_head 44 s false false [32] []
  rw [List.append_nil] at this
  rw [this, Option.map_map]
  congr 1
  funext ps
  cases ps with
  | nil => rfl
  | cons p r =>
    show full (trimL ([32] ++ p) :: r.map trimL) = _
    rw [List.singleton_append, show trimL (32 :: p) = trimL p from trim_lead rfl p]
    rfl
theorem FC_sp (cur s : List Nat) : FC cur (32 :: s) = FC (cur ++ [32]) s := by
  unfold FC
  rw [cutA, if_neg (by decide), if_neg (by decide), if_neg (by decide), if_neg (by decide)]
theorem FC_com (cur s : List Nat) : FC cur (44 :: s) = (FC [] s).map (full [trimL cur] ++ ·) := by
  unfold FC
  rw [cutA, if_pos ⟨rfl, rfl⟩, Option.map_map, Option.map_map]
  congr 1
  funext ps
  show full (trimL cur :: ps.map trimL) = full [trimL cur] ++ full (ps.map trimL)
  unfold full
  rw [← List.filter_append]
  rfl
def strsV (l : List (List Nat)) : List Val := l.map Val.str
theorem strs_pick {l : List (List Nat)} {y : Int} (h : 0 ≤ y) (h2 : y < l.length) : ∃ x ∈ l, atI (strsV l) y = some (.str x) := by
  obtain ⟨v, e, hv⟩ := pick (xs := strsV l) h (by unfold strsV; rw [List.length_map]; exact h2)
  obtain ⟨x, hx, rfl⟩ := List.mem_map.mp hv
  exact ⟨x, hx, e⟩
def nth : Nat → Ss → S
  | 0, .cons s _ => s
  | k + 1, .cons _ ss => nth k ss
  | _, .nil => .pass
/-! a sign found -/
theorem at_one (F L : List Nat) (c i : Nat) : StrLaws.At ⟨(F ++ c :: L).toArray⟩ ⟨#[c]⟩ (⟨(F ++ c :: L).toArray⟩ : Str).length i ↔ (F ++ c :: L)[i]? = some c := by
  unfold StrLaws.At
  rw [StrLaws.subAt_eq]
  have e1 : (⟨(F ++ c :: L).toArray⟩ : Str).length = (F ++ c :: L).length := by show ((F ++ c :: L).toArray).size = _; simp
  have e2 : (⟨#[c]⟩ : Str).length = 1 := rfl
  rw [e1, e2]
  show i + 1 ≤ _ ∧ _ ↔ _
  generalize F ++ c :: L = s
  simp only [List.toList_toArray]
  constructor
  · rintro ⟨h1, h2⟩
    have h2' := eq_of_beq h2
    rw [List.take_one] at h2'
    have h3 : (s.drop i).head? = some c := by
      cases q : (s.drop i).head? with
      | none => rw [q] at h2'; simp at h2'
      | some d => rw [q] at h2'; simpa using h2'
    rw [List.head?_drop] at h3
    exact h3
  · intro h
    obtain ⟨h1, h2⟩ := List.getElem?_eq_some_iff.mp h
    refine ⟨by omega, ?_⟩
    rw [List.take_one, List.head?_drop, h]
    simp
theorem find_one (F L : List Nat) (c : Nat) (h : c ∉ F) : Txt.find ⟨(F ++ c :: L).toArray⟩ ⟨#[c]⟩ = (F.length : Int) := by
  have at0 : (F ++ c :: L)[F.length]? = some c := by simp
  have lo : ∀ k, k < F.length → (F ++ c :: L)[k]? ≠ some c := fun k hk q => by
    rw [List.getElem?_append_left hk] at q
    exact h (List.mem_of_getElem? q)
  rcases PyProof.Rows.find_whole ⟨(F ++ c :: L).toArray⟩ ⟨#[c]⟩ with ⟨_, hn⟩ | ⟨i, e, hi, hn⟩
  · exact absurd ((at_one F L c _).mpr at0) (hn _)
  · rw [e]
    rw [at_one] at hi
    have h1 : ¬ i < F.length := fun q => lo i q hi
    have h2 : ¬ F.length < i := fun q => hn _ q ((at_one F L c _).mpr at0)
    omega
/-! digits -/
def digs (s : List Nat) : Bool := s.all fun c => decide (48 ≤ c) && decide (c ≤ 57)
theorem dig_mem (c : Nat) : decide (c ∈ [48, 49, 50, 51, 52, 53, 54, 55, 56, 57]) = (decide (48 ≤ c) && decide (c ≤ 57)) := by
  by_cases h : 48 ≤ c ∧ c ≤ 57
  · obtain ⟨h1, h2⟩ := h
    have : c = 48 ∨ c = 49 ∨ c = 50 ∨ c = 51 ∨ c = 52 ∨ c = 53 ∨ c = 54 ∨ c = 55 ∨ c = 56 ∨ c = 57 := by omega
    rcases this with rfl | rfl | rfl | rfl | rfl | rfl | rfl | rfl | rfl | rfl <;> rfl
  · have e : (decide (48 ≤ c) && decide (c ≤ 57)) = false := by
      rw [← Bool.decide_and]
      exact decide_eq_false h
    rw [e]
    refine decide_eq_false fun m => ?_
    simp only [List.mem_cons, List.not_mem_nil, or_false] at m
    omega
theorem dig_loop (n : Nat) (h : Hs) (all : List Val) (s0 : Option Val) : ∀ (s : List Nat) (o : Option Val),
    (digs s = true → ∃ t, forV (forK (.nm 1) (exs (callsN G n) f4_l0)) (.vals all) (s.map fun c => .str [c]) [s0, o] h = .nx [s0, t] h) ∧
    (digs s = false → forV (forK (.nm 1) (exs (callsN G n) f4_l0)) (.vals all) (s.map fun c => .str [c]) [s0, o] h = .rt (.bl false) h)
  | [], o => ⟨fun _ => ⟨o, by simp [forV, Src.ok]⟩, fun h => by cases h⟩
  | c :: s, o => by
    have g0 : (callsN G n).glob 0 = some (.str [48, 49, 50, 51, 52, 53, 54, 55, 56, 57]) := rfl
    have dm := dig_mem c
    have dd : digs (c :: s) = ((decide (48 ≤ c) && decide (c ≤ 57)) && digs s) := rfl
    rw [dd]
    obtain ⟨a1, a2⟩ := dig_loop n h all s0 s (some (.str [c]))
    generalize [48, 49, 50, 51, 52, 53, 54, 55, 56, 57] = DG at g0 dm
    cases q : (decide (48 ≤ c) && decide (c ≤ 57)) with
    | true =>
      rw [q] at dm
      have dm' := of_decide_eq_true dm
      rw [Bool.true_and]
      have step : forV (forK (.nm 1) (exs (callsN G n) f4_l0)) (.vals all) ((c :: s).map fun c => .str [c]) [s0, o] h = forV (forK (.nm 1) (exs (callsN G n) f4_l0)) (.vals all) (s.map fun c => .str [c]) [s0, some (.str [c])] h := by
        simp [forV, Src.ok, forK, f4_l0, g0, dm']
      rw [step]
      exact ⟨a1, a2⟩
    | false =>
      rw [q] at dm
      have dm' := of_decide_eq_false dm
      refine ⟨fun h => (by simp at h), fun _ => ?_⟩
      simp [forV, Src.ok, forK, f4_l0, g0, dm']
theorem digs_eq (n : Nat) (h : Hs) (s : List Nat) : callN G (n + 1) 4 [.str s] h = .ok (.bl (digs s)) h := by
  rw [callN_eq (d := f4) rfl]
  obtain ⟨a1, a2⟩ := dig_loop n h (s.map fun c => .str [c]) (some (.str s)) s none
  cases q : digs s with
  | true =>
    obtain ⟨t, w⟩ := a1 q
    simp [f4, w]
  | false => simp [f4, a2 q]
def rdI (s : List Nat) : Int := if s = [] then -1 else if 15 < s.length then -1 else if digs s = true then ((NumText.digitsVal s : Nat) : Int) else -1
theorem idx_eq (n : Nat) (h : Hs) (s : List Nat) (hl : s.length ≤ 640) : callN G (n + 2) 5 [.str s] h = .ok (.int (rdI s)) h := by
  rw [callN_eq (d := f5) rfl]
  have fe : (callsN G (n + 1)).f = callN G (n + 1) := rfl
  have g1 : (callsN G (n + 1)).glob 1 = some (.int 15) := rfl
  have dg := digs_eq n h s
  have l1 : s.length ≤ 16777216 := by omega
  unfold rdI
  by_cases e : s = []
  · subst e
    simp [f5]
  · by_cases e2 : 15 < s.length
    · have e2' : (15 : Int) < s.length := by omega
      simp [f5, e, e2, e2', g1, l1]
    · have e2' : ¬ (15 : Int) < s.length := by omega
      cases q : digs s with
      | false =>
        rw [q] at dg
        simp [f5, e, e2, e2', g1, l1, fe, dg]
      | true =>
        rw [q] at dg
        have iS := SX.int_S (a := s) q e (by omega)
        have iS' : intText? ⟨s.toArray⟩ = some ((NumText.digitsVal s : Nat) : Int) := iS
        simp [f5, e, e2, e2', g1, l1, fe, dg, iS', hl]
/-- what a range of two texts gives -/
def rngV (size : Int) (F L : List Nat) : Val :=
  if F = [] then (if rdI L < 0 then .non else if 0 < rdI L ∧ 0 < size then .tup [.int (if size - rdI L > 0 then size - rdI L else 0), .int (size - 1)] else .tup [])
  else if rdI F < 0 then .non
  else if L = [] then (if rdI F < size then .tup [.int (rdI F), .int (size - 1)] else .tup [])
  else if rdI L < rdI F then .non
  else if rdI F < size then .tup [.int (rdI F), .int (if size - 1 < rdI L then size - 1 else rdI L)] else .tup []
theorem range_eq (n : Nat) (h : Hs) (F L : List Nat) (size : Int) (hF : 45 ∉ F) (h1 : F.length ≤ 100) (h2 : L.length ≤ 100) : callN G (n + 3) 6 [.str (F ++ 45 :: L), .int size] h = .ok (rngV size F L) h := by
  rw [callN_eq (d := f6) rfl]
  have fe : (callsN G (n + 2)).f = callN G (n + 2) := rfl
  have fo := find_one F L 45 hF
  have fo' : Txt.find ⟨F.toArray ++ (45 :: L).toArray⟩ ⟨#[45]⟩ = (F.length : Int) := by rw [← fo]; simp
  have l1 : F.length + (L.length + 1) ≤ 16777216 := by omega
  have c1 : cutL (F ++ 45 :: L) none (some (F.length : Int)) = F := by rw [cutL_to (by omega)]; simp
  have c2 : cutL (F ++ 45 :: L) (some ((F.length : Int) + 1)) none = L := by
    rw [cutL_from (by omega)]
    have : ((F.length : Int) + 1).toNat = F.length + 1 := by omega
    rw [this, ← List.drop_drop]
    simp
  have i1 := idx_eq n h F (by omega)
  have i2 := idx_eq n h L (by omega)
  have nn : ¬ ((F.length : Int) < 0) := by omega
  unfold rngV
  obtain ⟨f, hf⟩ : ∃ f, rdI F = f := ⟨_, rfl⟩
  obtain ⟨l, hl⟩ : ∃ l, rdI L = l := ⟨_, rfl⟩
  have fge : f = -1 ∨ 0 ≤ f := by
    rw [← hf]
    unfold rdI
    split
    · exact .inl rfl
    · split
      · exact .inl rfl
      · split
        · exact .inr (by omega)
        · exact .inl rfl
  have lnil : L = [] → l = -1 := fun e => by rw [← hl, e]; rfl
  rw [hf] at i1 ⊢
  rw [hl] at i2 ⊢
  have tl : (F ++ 45 :: L).length = F.length + (L.length + 1) := by simp
  generalize F ++ 45 :: L = S at fo c1 c2 tl ⊢
  have l1' : S.length ≤ 16777216 := by omega
  clear fo' l1 tl h1 h2 hf hF
  generalize (F.length : Int) = k at fo c1 c2 nn
  by_cases e1 : F = []
  · rw [if_pos e1]
    subst e1
    by_cases e2 : l < 0
    · simp [f6, fo, l1', nn, c1, c2, fe, i1, i2, e2]
    · rw [if_neg e2]
      by_cases e3 : 0 < l
      · by_cases e4 : 0 < size
        · simp [f6, fo, l1', nn, c1, c2, fe, i1, i2, e2, e3, e4]
        · simp [f6, fo, l1', nn, c1, c2, fe, i1, i2, e2, e3, e4]
      · simp [f6, fo, l1', nn, c1, c2, fe, i1, i2, e2, e3]
  · rw [if_neg e1]
    by_cases e2 : f < 0
    · rw [if_pos e2]
      have e3 : ¬ 0 ≤ f := by omega
      by_cases e4 : L = []
      · subst e4
        simp [f6, fo, l1', nn, c1, c2, fe, i1, i2, e1, e2, e3]
      · simp [f6, fo, l1', nn, c1, c2, fe, i1, i2, e1, e2, e3, e4]
    · rw [if_neg e2]
      have e3 : 0 ≤ f := by omega
      by_cases e4 : L = []
      · rw [if_pos e4]
        subst e4
        by_cases e5 : f < size
        · have e6 : ¬ (if size - 1 > f then size - 1 else f) < f := by split <;> omega
          have e7 : (if size - 1 < (if size - 1 > f then size - 1 else f) then size - 1 else (if size - 1 > f then size - 1 else f)) = size - 1 := by split <;> split <;> omega
          simp only [gt_iff_lt] at e6 e7
          simp [f6, fo, l1', nn, c1, c2, fe, i1, i2, e1, e2, e3, e5, e6, e7]
        · have e6 : ¬ (if size - 1 > f then size - 1 else f) < f := by split <;> omega
          simp only [gt_iff_lt] at e6
          simp [f6, fo, l1', nn, c1, c2, fe, i1, i2, e1, e2, e3, e5, e6]
      · rw [if_neg e4]
        by_cases e5 : l < f
        · simp [f6, fo, l1', nn, c1, c2, fe, i1, i2, e1, e2, e3, e4, e5]
        · by_cases e6 : f < size
          · simp [f6, fo, l1', nn, c1, c2, fe, i1, i2, e1, e2, e3, e4, e5, e6]
          · simp [f6, fo, l1', nn, c1, c2, fe, i1, i2, e1, e2, e3, e4, e5, e6]
/-! texts of digits and lines -/
def plain (s : List Nat) : Bool := s.all fun c => decide (c = 45) || (decide (48 ≤ c) && decide (c ≤ 57))
theorem plain_mem {s : List Nat} (h : plain s = true) {c : Nat} (hc : c ∈ s) : c = 45 ∨ (48 ≤ c ∧ c ≤ 57) := by
  have := List.all_eq_true.mp h c hc
  simpa using this
theorem plain_run : ∀ s : List Nat, (∀ c ∈ s, c = 45 ∨ (48 ≤ c ∧ c ≤ 57)) → runA 44 false false s = some (false, false)
  | [], _ => rfl
  | c :: s, h => by
    have hc := h c List.mem_cons_self
    rw [runA, if_neg (by omega), if_neg (by decide), if_neg (by simp), if_neg (by omega)]
    exact plain_run s fun d hd => h d (List.mem_cons_of_mem _ hd)
theorem dw_none (g : Nat → Bool) : ∀ s : List Nat, (∀ c ∈ s, g c = false) → s.dropWhile g = s
  | [], _ => rfl
  | c :: s, h => by rw [List.dropWhile_cons_of_neg (by rw [h c List.mem_cons_self]; decide)]
theorem plain_trim (s : List Nat) (h : ∀ c ∈ s, c = 45 ∨ (48 ≤ c ∧ c ≤ 57)) : trimL s = s := by
  have b : ∀ c ∈ s, bl c = false := fun c hc => by
    have := h c hc
    unfold bl
    simp
    omega
  show trimG bl s = s
  unfold trimG
  rw [dw_none bl s b, dw_none bl _ fun c hc => b c (List.mem_reverse.mp hc), List.reverse_reverse]
/-- a part with what it says -/
structure Pt (size : Int) (T : List Nat) (v : Val) : Prop where
  run : runA 44 false false T = some (false, false)
  tr : trimL T = T
  ne : T ≠ []
  len : T.length ≤ 100
  hd : ∀ c, T.head? = some c → c < 128 ∧ c ≠ 61
  rd : ∀ h, callN G 6 6 [.str T, .int size] h = .ok v h
  val : v = .non ∨ v = .tup [] ∨ ∃ a b : Int, v = .tup [.int a, .int b] ∧ 0 ≤ a ∧ a ≤ b ∧ b < size
theorem rng_val (size : Int) (F L : List Nat) : rngV size F L = .non ∨ rngV size F L = .tup [] ∨ ∃ a b : Int, rngV size F L = .tup [.int a, .int b] ∧ 0 ≤ a ∧ a ≤ b ∧ b < size := by
  unfold rngV
  split
  · split
    · exact .inl rfl
    · split
      · refine .inr (.inr ⟨_, _, rfl, ?_, ?_, ?_⟩)
        · split <;> omega
        · split <;> omega
        · omega
      · exact .inr (.inl rfl)
  · split
    · exact .inl rfl
    · split
      · split
        · exact .inr (.inr ⟨_, _, rfl, by omega, by omega, by omega⟩)
        · exact .inr (.inl rfl)
      · split
        · exact .inl rfl
        · split
          · refine .inr (.inr ⟨_, _, rfl, by omega, ?_, ?_⟩)
            · split <;> omega
            · split <;> omega
          · exact .inr (.inl rfl)
theorem pt_plain (size : Int) (F L : List Nat) (hF : digs F = true) (hL : digs L = true) (h1 : F.length ≤ 40) (h2 : L.length ≤ 40) : Pt size (F ++ 45 :: L) (rngV size F L) := by
  have mem : ∀ {s : List Nat}, digs s = true → ∀ c ∈ s, 48 ≤ c ∧ c ≤ 57 := fun {s} h c hc => by
    have := List.all_eq_true.mp h c hc
    simpa using this
  have pl : ∀ c ∈ F ++ 45 :: L, c = 45 ∨ (48 ≤ c ∧ c ≤ 57) := fun c hc => by
    rcases List.mem_append.mp hc with h | h
    · exact .inr (mem hF c h)
    · rcases List.mem_cons.mp h with h | h
      · exact .inl h
      · exact .inr (mem hL c h)
  refine ⟨plain_run _ pl, plain_trim _ pl, by simp, by simp; omega, fun c q => ?_, fun h => range_eq 3 h F L size (fun m => ?_) (by omega) (by omega), rng_val size F L⟩
  · have := pl c (List.mem_of_mem_head? (by rw [q]; rfl))
    omega
  · have := mem hF 45 m
    omega
def BAD : List (List Nat) := [[97, 45, 98], [45], [53], [49, 45, 50, 45, 51], [45, 45, 49], [49, 32, 45, 32, 50], [43, 49, 45, 50], [120]]
theorem bad_ok : BAD.all (fun T => decide (runA 44 false false T = some (false, false)) && (decide (trimL T = T) && (decide (T ≠ []) && (decide (T.length ≤ 100) && T.head?.all (fun c => decide (c < 128) && decide (c ≠ 61)))))) = true := by kernel_rfl
def bdAll (size : Int) (h : Hs) : List (List Nat) → Prop
  | [] => True
  | x :: r => callN G 6 6 [.str x, .int size] h = .ok .non h ∧ bdAll size h r
theorem bd_all (size : Int) (h : Hs) : bdAll size h BAD := by
  repeat (first | exact trivial | refine ⟨by kernel_rfl, ?_⟩)
theorem bd_mem {size : Int} {h : Hs} : ∀ {l : List (List Nat)}, bdAll size h l → ∀ x ∈ l, callN G 6 6 [.str x, .int size] h = .ok .non h
  | [], _, x, hx => absurd hx List.not_mem_nil
  | y :: l, p, x, hx => by
    rcases List.mem_cons.mp hx with rfl | hx
    · exact p.1
    · exact bd_mem p.2 x hx
theorem pt_bad (size : Int) {T : List Nat} (h : T ∈ BAD) : Pt size T .non := by
  have k := List.all_eq_true.mp bad_ok T h
  simp only [Bool.and_eq_true, decide_eq_true_eq] at k
  exact ⟨k.1, k.2.1, k.2.2.1, k.2.2.2.1, fun c hc => by have := k.2.2.2.2; rw [hc] at this; simpa using this, fun g => bd_mem (bd_all size g) T h, .inl rfl⟩
/-! numbers as texts -/
theorem numS_nat (n : Nat) : numS (n : Int) = TL.numL n := TL.tl_num n
theorem digs_num (n : Nat) : digs (TL.numL n) = true := List.all_eq_true.mpr fun c hc => by
  have := TL.numL_digits n c hc
  simp [this.1, this.2]
def ZER : List (List Nat) := [[], [48], [48, 48]]
theorem digs_zer {Z : List Nat} (h : Z ∈ ZER) (n : Nat) : digs (Z ++ TL.numL n) = true ∧ NumText.digitsVal (Z ++ TL.numL n) = n ∧ Z ++ TL.numL n ≠ [] ∧ Z.length ≤ 2 := by
  have v := TL.numL_val n
  have ne := TL.numL_ne n
  have d := digs_num n
  simp only [ZER, List.mem_cons, List.not_mem_nil, or_false] at h
  rcases h with rfl | rfl | rfl
  · exact ⟨d, v, ne, by decide⟩
  · exact ⟨by unfold digs at d ⊢; rw [List.all_append, d]; rfl, v, by simp, by decide⟩
  · exact ⟨by unfold digs at d ⊢; rw [List.all_append, d]; rfl, v, by simp, by decide⟩
theorem rdI_of {s : List Nat} {n : Nat} (h1 : digs s = true) (h2 : NumText.digitsVal s = n) (h3 : s ≠ []) : rdI s = if 15 < s.length then -1 else (n : Int) := by
  unfold rdI
  rw [if_neg h3, if_pos h1, h2]
theorem take_exB {G : Tab} {t n : Nat} (ht : G.fns[t]? = some takeFn) {d : DS} (ok : d.ok) {many : Int} (hm : 0 < many) (hb : many ≤ 2000000000000000) :
    ∃ (x : Int) (d' : DS), d'.ok ∧ 0 ≤ x ∧ x < many ∧ ∀ r : Hs, callN G (n + 1) t [.ref 2, .int many] (d.hs ++ r) = .ok (.int x) (d'.hs ++ r) := by
  have hb' : bits many < 9000 := by
    unfold bits
    by_cases h0 : many.natAbs = 0
    · rw [h0]; decide
    · have : many.natAbs.log2 < 64 := (Nat.log2_lt h0).mpr (by omega)
      omega
  exact ⟨_, _, (takeS_ok ok hm).1, (takeS_ok ok hm).2.1, (takeS_ok ok hm).2.2.1, fun r => take_eq ht ok hm hb' r⟩
theorem bits_num {i : Int} (h : 0 ≤ i) (h2 : i ≤ 2000000000000000) : bits i < 1920 := by
  unfold bits
  by_cases h0 : i.natAbs = 0
  · rw [h0]; decide
  · have : i.natAbs.log2 < 64 := (Nat.log2_lt h0).mpr (by omega)
    omega
theorem num_ex (n : Nat) {d : DS} (ok : d.ok) (r : Hs) {size : Int} (s0 : 0 ≤ size) (s1 : size ≤ 1000000000000000) :
    ∃ (x : Int) (d' : DS) (j : Hs), d'.ok ∧ 0 ≤ x ∧ x ≤ 1000000000000010 ∧ callN G (n + 2) 10 [.ref 2, .int size] (d.hs ++ r) = .ok (.int x) (d'.hs ++ (r ++ j)) := by
  rw [callN_eq (d := f10) rfl]
  have fe : (callsN G (n + 1)).f = callN G (n + 1) := rfl
  obtain ⟨x, d1, ok1, a1, b1, t1⟩ := take_ex (G := G) (t := 9) (n := n) rfl ok (many := 6) (by decide) (by decide)
  by_cases x0 : x = 0
  · obtain ⟨y, d2, ok2, a2, b2, t2⟩ := take_ex (G := G) (t := 9) (n := n) rfl ok1 (many := 3) (by decide) (by decide)
    have : ∃ z : Int, atI [Val.int 0, .int 1, .int 2] y = some (.int z) ∧ 0 ≤ z ∧ z ≤ 2 := by
      have y3 : y = 0 ∨ y = 1 ∨ y = 2 := by omega
      rcases y3 with rfl | rfl | rfl
      · exact ⟨0, rfl, by decide, by decide⟩
      · exact ⟨1, rfl, by decide, by decide⟩
      · exact ⟨2, rfl, by decide, by decide⟩
    obtain ⟨z, e, z0, z1⟩ := this
    exact ⟨z, d2, [.lst [.int 0, .int 1, .int 2]], ok2, z0, by omega, by simp [f10, fe, t1, x0, t2, e]⟩
  · by_cases x1 : x = 1
    · obtain ⟨y, d2, ok2, a2, b2, t2⟩ := take_ex (G := G) (t := 9) (n := n) rfl ok1 (many := 3) (by decide) (by decide)
      refine ⟨if size - 1 + y > 0 then size - 1 + y else 0, d2, [], ok2, by split <;> omega, by split <;> omega, by simp [f10, fe, t1, x1, t2]⟩
    · by_cases x2 : x = 2
      · obtain ⟨y, d2, ok2, a2, b2, t2⟩ := take_ex (G := G) (t := 9) (n := n) rfl ok1 (many := 2) (by decide) (by decide)
        have : ∃ z : Int, atI [Val.int 999999999999999, .int 1000000000000000] y = some (.int z) ∧ 0 ≤ z ∧ z ≤ 1000000000000000 := by
          have y2 : y = 0 ∨ y = 1 := by omega
          rcases y2 with rfl | rfl
          · exact ⟨999999999999999, rfl, by decide, by decide⟩
          · exact ⟨1000000000000000, rfl, by decide, by decide⟩
        obtain ⟨z, e, z0, z1⟩ := this
        exact ⟨z, d2, [.lst [.int 999999999999999, .int 1000000000000000]], ok2, z0, by omega, by simp [f10, fe, t1, x2, t2, e]⟩
      · obtain ⟨y, d2, ok2, a2, b2, t2⟩ := take_exB (G := G) (t := 9) (n := n) rfl ok1 (many := size + 3) (by omega) (by omega)
        exact ⟨y, d2, [], ok2, a2, by omega, by simp [f10, fe, t1, x0, x1, x2, t2]⟩
theorem part_ex (n : Nat) {d : DS} (ok : d.ok) (r : Hs) {size : Int} (s0 : 0 ≤ size) (s1 : size ≤ 1000000000000000) :
    ∃ (T : List Nat) (v : Val) (d' : DS) (j : Hs), d'.ok ∧ Pt size T v ∧ callN G (n + 3) 11 [.ref 2, .int size] (d.hs ++ r) = .ok (.tup [.str T, v]) (d'.hs ++ (r ++ j)) := by
  rw [callN_eq (d := f11) rfl]
  have fe : (callsN G (n + 2)).f = callN G (n + 2) := rfl
  obtain ⟨a, d1, j1, ok1, a0, a1, c1⟩ := num_ex n ok r s0 s1
  obtain ⟨b, d2, j2, ok2, b0, b1, c2⟩ := num_ex n ok1 (r ++ j1) s0 s1
  obtain ⟨x, d3, ok3, x0, x1, t3⟩ := take_ex (G := G) (t := 9) (n := n + 1) rfl ok2 (many := 8) (by decide) (by decide)
  obtain ⟨y, d4, ok4, y0, y1, t4⟩ := take_ex (G := G) (t := 9) (n := n + 1) rfl ok3 (many := 12) (by decide) (by decide)
  obtain ⟨A, rfl⟩ : ∃ A : Nat, a = A := ⟨a.toNat, by omega⟩
  obtain ⟨B, rfl⟩ : ∃ B : Nat, b = B := ⟨b.toNat, by omega⟩
  obtain ⟨Z, z1, z2⟩ := strs_pick (l := ZER) (y := x / 6) (by omega) (by show x / 6 < 3; omega)
  obtain ⟨g1, g2, g3, g4⟩ := digs_zer z1 A
  have nl := TL.numL_len (n := A) (k := 17) (by decide) (by omega)
  have nlB := TL.numL_len (n := B) (k := 17) (by decide) (by omega)
  have bA := bits_num (i := (A : Int)) a0 (by omega)
  have bB := bits_num (i := (B : Int)) b0 (by omega)
  have sA := numS_nat A
  have sB := numS_nat B
  have rA := rdI_of g1 g2 g3
  have rB := rdI_of (digs_num B) (TL.numL_val B) (TL.numL_ne B)
  have neB := TL.numL_ne B
  have b6 : bits 6 < 9000 := bits_small (by decide) (by decide)
  have dB := digs_num B
  simp only [strsV, ZER, List.map_cons, List.map_nil] at z2
  have fl : (Z ++ TL.numL A).length ≤ 19 := by rw [List.length_append]; omega
  generalize TL.numL B = NB at nlB sB rB neB dB
  generalize hNA : TL.numL A = NA at nl sA g1 g2 g3 rA fl
  have l0 : Z.length + NA.length ≤ 16777216 := by omega
  generalize hF : Z ++ NA = F at g1 g2 g3 rA fl
  have l1 : F.length ≤ 16777216 := by omega
  have l2 : F.length + 1 ≤ 16777216 := by omega
  have l3 : 1 + F.length ≤ 16777216 := by omega
  have l4 : F.length + (1 + NB.length) ≤ 16777216 := by omega
  have l5 : F.length + 1 + NB.length ≤ 16777216 := by omega
  have l6 : NB.length ≤ 16777216 := by omega
  have pre : ∀ v : O, exs (callsN G (n + 2)) (.cons (nth 5 f11.body) (.cons (nth 6 f11.body) (.cons (nth 7 f11.body) (.cons (nth 8 f11.body) (.cons (nth 9 f11.body) (.cons (nth 10 f11.body) .nil)))))) [some (.ref 2), some (.int size), some (.int A), some (.int B), some (.str F), some (.int y), some (.bl (decide (15 < F.length))), none] (d4.hs ++ (r ++ j1 ++ j2 ++ [.lst (strsV ZER)])) = v →
      exs (callsN G (n + 2)) f11.body [some (.ref 2), some (.int size), none, none, none, none, none, none] (d.hs ++ r) = v := fun v hv => by
    have hb : f11.body = .cons (nth 0 f11.body) (.cons (nth 1 f11.body) (.cons (nth 2 f11.body) (.cons (nth 3 f11.body) (.cons (nth 4 f11.body) (.cons (nth 5 f11.body) (.cons (nth 6 f11.body) (.cons (nth 7 f11.body) (.cons (nth 8 f11.body) (.cons (nth 9 f11.body) (.cons (nth 10 f11.body) .nil)))))))))) := rfl
    have y0 : ex (callsN G (n + 2)) (nth 0 f11.body) [some (.ref 2), some (.int size), none, none, none, none, none, none] (d.hs ++ r) = .nx [some (.ref 2), some (.int size), some (.int A), none, none, none, none, none] (d1.hs ++ (r ++ j1)) := by
      simp [nth, f11, fe, c1]
    have y1 : ex (callsN G (n + 2)) (nth 1 f11.body) [some (.ref 2), some (.int size), some (.int A), none, none, none, none, none] (d1.hs ++ (r ++ j1)) = .nx [some (.ref 2), some (.int size), some (.int A), some (.int B), none, none, none, none] (d2.hs ++ (r ++ j1 ++ j2)) := by
      generalize r ++ j1 = r1 at c2 ⊢
      simp [nth, f11, fe, c2]
    have y2 : ex (callsN G (n + 2)) (nth 2 f11.body) [some (.ref 2), some (.int size), some (.int A), some (.int B), none, none, none, none] (d2.hs ++ (r ++ j1 ++ j2)) = .nx [some (.ref 2), some (.int size), some (.int A), some (.int B), some (.str F), none, none, none] (d3.hs ++ (r ++ j1 ++ j2 ++ [.lst (strsV ZER)])) := by
      generalize r ++ j1 ++ j2 = r1
      simp [nth, f11, fe, t3, b6, z2, bA, sA, l0, hF, strsV, ZER]
    have y3 : ∀ R : Hs, ex (callsN G (n + 2)) (nth 3 f11.body) [some (.ref 2), some (.int size), some (.int A), some (.int B), some (.str F), none, none, none] (d3.hs ++ R) = .nx [some (.ref 2), some (.int size), some (.int A), some (.int B), some (.str F), some (.int y), none, none] (d4.hs ++ R) := fun R => by
      simp [nth, f11, fe, t4]
    have y4 : ∀ R : Hs, ex (callsN G (n + 2)) (nth 4 f11.body) [some (.ref 2), some (.int size), some (.int A), some (.int B), some (.str F), some (.int y), none, none] R = .nx [some (.ref 2), some (.int size), some (.int A), some (.int B), some (.str F), some (.int y), some (.bl (decide (15 < F.length))), none] R := fun R => by
      have : decide ((15 : Int) < F.length) = decide (15 < F.length) := by
        by_cases q : 15 < F.length
        · rw [decide_eq_true q, decide_eq_true (by omega)]
        · rw [decide_eq_false q, decide_eq_false (by omega)]
      simp [nth, f11, l1, this]
    rw [hb, q_exs_cons, y0, O.then_nx, q_exs_cons, y1, O.then_nx, q_exs_cons, y2, O.then_nx, q_exs_cons, y3, O.then_nx, q_exs_cons, y4, O.then_nx, hv]
  have goal : ∃ (T : List Nat) (v : Val) (d' : DS) (j : Hs), d'.ok ∧ Pt size T v ∧ exs (callsN G (n + 2)) (.cons (nth 5 f11.body) (.cons (nth 6 f11.body) (.cons (nth 7 f11.body) (.cons (nth 8 f11.body) (.cons (nth 9 f11.body) (.cons (nth 10 f11.body) .nil)))))) [some (.ref 2), some (.int size), some (.int A), some (.int B), some (.str F), some (.int y), some (.bl (decide (15 < F.length))), none] (d4.hs ++ (r ++ j1 ++ j2 ++ [.lst (strsV ZER)])) = .rt (.tup [.str T, v]) (d'.hs ++ (r ++ j)) := by
    have ra : ∀ l, r ++ (j1 ++ j2 ++ [Ob.lst (strsV ZER)] ++ l) = r ++ j1 ++ j2 ++ [Ob.lst (strsV ZER)] ++ l := fun l => by simp
    have ra0 : r ++ (j1 ++ j2 ++ [Ob.lst (strsV ZER)]) = r ++ j1 ++ j2 ++ [Ob.lst (strsV ZER)] := by simp
    by_cases e0 : y = 0
    · obtain ⟨u, d5, ok5, u0, u1, t5⟩ := take_ex (G := G) (t := 9) (n := n + 1) rfl ok4 (many := 8) (by decide) (by decide)
      obtain ⟨T, m1, m2⟩ := strs_pick (l := BAD) u0 u1
      refine ⟨T, .non, d5, j1 ++ j2 ++ [.lst (strsV ZER)] ++ [.lst (strsV BAD)], ok5, pt_bad size m1, ?_⟩
      rw [ra]
      generalize r ++ j1 ++ j2 ++ [Ob.lst (strsV ZER)] = R
      simp only [strsV, BAD, List.map_cons, List.map_nil] at m2 ⊢
      simp [nth, f11, fe, t5, e0, m2]
    · by_cases e1 : y < 4
      · have pt := pt_plain size F [] g1 rfl (by omega) (by decide)
        have rv : rngV size F [] = if 15 < F.length then .non else if (A : Int) < size then .tup [.int A, .int (size - 1)] else .tup [] := by
          unfold rngV
          rw [if_neg g3, rA]
          by_cases q : 15 < F.length
          · rw [if_pos q, if_pos (by decide), if_pos q]
          · rw [if_neg q, if_neg (by omega), if_pos rfl, if_neg q]
        refine ⟨F ++ [45], rngV size F [], d4, j1 ++ j2 ++ [.lst (strsV ZER)], ok4, pt, ?_⟩
        rw [ra0, rv]
        generalize r ++ j1 ++ j2 ++ [Ob.lst (strsV ZER)] = R
        by_cases q : 15 < F.length
        · simp [nth, f11, e0, e1, q, l2]
        · by_cases q2 : (A : Int) < size
          · simp [nth, f11, e0, e1, q, q2, l2]
          · simp [nth, f11, e0, e1, q, q2, l2]
      · by_cases e2 : y < 7
        · have pt := pt_plain size [] F rfl g1 (by decide) (by omega)
          have rv : rngV size [] F = if 15 < F.length then .non else if 0 < (A : Int) ∧ 0 < size then .tup [.int (if size - A > 0 then size - A else 0), .int (size - 1)] else .tup [] := by
            unfold rngV
            rw [if_pos rfl, rA]
            by_cases q : 15 < F.length
            · rw [if_pos q, if_pos (by decide), if_pos q]
            · rw [if_neg q, if_neg (by omega), if_neg q]
          refine ⟨45 :: F, rngV size [] F, d4, j1 ++ j2 ++ [.lst (strsV ZER)], ok4, pt, ?_⟩
          rw [ra0, rv]
          generalize r ++ j1 ++ j2 ++ [Ob.lst (strsV ZER)] = R
          by_cases q : 15 < F.length
          · simp [nth, f11, e0, e1, e2, q, l2, l3]
          · by_cases q2 : 0 < (A : Int)
            · have q2' : 0 < A := by omega
              by_cases q3 : 0 < size
              · simp [nth, f11, e0, e1, e2, q, q2, q2', q3, l2, l3]
              · simp [nth, f11, e0, e1, e2, q, q2, q2', q3, l2, l3]
            · have q2' : ¬ 0 < A := by omega
              simp [nth, f11, e0, e1, e2, q, q2, q2', l2, l3]
        · have pt := pt_plain size F NB g1 dB (by omega) (by omega)
          have rv : rngV size F NB = if 15 < F.length then .non else if 15 < NB.length then .non else if (B : Int) < A then .non else if (A : Int) < size then .tup [.int A, .int (if size - 1 < B then size - 1 else B)] else .tup [] := by
            unfold rngV
            rw [if_neg g3, rA, rB]
            by_cases q : 15 < F.length
            · rw [if_pos q, if_pos (by decide), if_pos q]
            · rw [if_neg q, if_neg (by omega), if_neg neB, if_neg q]
              by_cases q2 : 15 < NB.length
              · rw [if_pos q2, if_pos q2, if_pos (by omega)]
              · rw [if_neg q2, if_neg q2]
          refine ⟨F ++ 45 :: NB, rngV size F NB, d4, j1 ++ j2 ++ [.lst (strsV ZER)], ok4, pt, ?_⟩
          rw [ra0, rv]
          generalize r ++ j1 ++ j2 ++ [Ob.lst (strsV ZER)] = R
          by_cases q : 15 < F.length
          · simp [nth, f11, e0, e1, e2, q, l2, l5, bB, sB]
          · by_cases q2 : 15 < NB.length
            · have q2' : (15 : Int) < NB.length := by omega
              simp [nth, f11, e0, e1, e2, q, q2, q2', l2, l5, l6, bB, sB]
            · have q2' : ¬ (15 : Int) < NB.length := by omega
              by_cases q3 : (B : Int) < A
              · have q3' : B < A := by omega
                simp [nth, f11, e0, e1, e2, q, q2, q2', q3, q3', l2, l5, l6, bB, sB]
              · have q3' : ¬ B < A := by omega
                by_cases q4 : (A : Int) < size
                · simp [nth, f11, e0, e1, e2, q, q2, q2', q3, q3', q4, l2, l5, l6, bB, sB]
                · simp [nth, f11, e0, e1, e2, q, q2, q2', q3, q3', q4, l2, l5, l6, bB, sB]
  obtain ⟨T, v, d', j, okd, pt, e⟩ := goal
  refine ⟨T, v, d', j, okd, pt, ?_⟩
  show endF (exs (callsN G (n + 2)) f11.body [some (.ref 2), some (.int size), none, none, none, none, none, none] (d.hs ++ r)) = _
  rw [pre _ e]
  rfl
/-! the value -/
theorem FC_tab (s : List Nat) : FC [] (9 :: s) = FC [] s := by
  have e1 : FC [] (9 :: s) = FC [9] s := by
    unfold FC
    rw [cutA, if_neg (by decide), if_neg (by decide), if_neg (by decide), if_neg (by decide)]
    rfl
  rw [e1]
  unfold FC
  have := cut_head 44 s false false [9] []
  rw [List.append_nil] at this
  rw [this, Option.map_map]
  congr 1
  funext ps
  cases ps with
  | nil => rfl
  | cons p r =>
    show full (trimL ([9] ++ p) :: r.map trimL) = _
    rw [List.singleton_append, show trimL (9 :: p) = trimL p from trim_lead rfl p]
    rfl
def LEAD : List (List Nat) := [[], [32], [32, 44], [9]]
def TRAIL : List (List Nat) := [[], [32]]
theorem FC_lead {a : List Nat} (ha : a ∈ LEAD) (x : List Nat) : FC [] (a ++ x) = FC [] x := by
  simp only [LEAD, List.mem_cons, List.not_mem_nil, or_false] at ha
  rcases ha with rfl | rfl | rfl | rfl
  · rfl
  · rw [List.singleton_append, FC_sp]
    exact FC_bl x
  · show FC [] (32 :: 44 :: x) = _
    rw [FC_sp, FC_com]
    show (FC [] x).map (fun y => [] ++ y) = _
    simp
  · exact FC_tab x
theorem FC_end (cur : List Nat) : FC cur [] = some (full [trimL cur]) := rfl
theorem piece {size : Int} {T : List Nat} {v : Val} (p : Pt size T v) {a b : List Nat} (ha : a ∈ LEAD) (hb : b ∈ TRAIL) :
    (∀ s, FC [] (a ++ (T ++ (b ++ 44 :: s))) = (FC [] s).map ([T] ++ ·)) ∧ FC [] (a ++ (T ++ b)) = some [T] := by
  have run : ∀ s, FC [] (T ++ s) = FC T s := fun s => by
    unfold FC
    rw [run_thru 44 T _ _ _ _ _ _ p.run, List.nil_append]
  have tb : trimL (T ++ [32]) = T := by rw [show trimL (T ++ [32]) = trimL T from trim_trail rfl T, p.tr]
  have f1 : full [T] = [T] := by simp [full, p.ne]
  simp only [TRAIL, List.mem_cons, List.not_mem_nil, or_false] at hb
  refine ⟨fun s => ?_, ?_⟩
  · rw [FC_lead ha, run]
    rcases hb with rfl | rfl
    · rw [List.nil_append, FC_com, p.tr, f1]
    · rw [List.singleton_append, FC_sp, FC_com, tb, f1]
  · rw [FC_lead ha, run]
    rcases hb with rfl | rfl
    · rw [FC_end, p.tr, f1]
    · rw [FC_sp, FC_end, tb, f1]
structure Vd (size : Int) (V : List Nat) (D : List (List Nat × Val)) : Prop where
  c : ∀ s, FC [] (V ++ 44 :: s) = (FC [] s).map (D.map (·.1) ++ ·)
  e : FC [] V = some (D.map (·.1))
  k : ∀ p ∈ D, Pt size p.1 p.2
theorem Vd.nil {size : Int} : Vd size [] [] := ⟨fun s => by
  rw [List.nil_append, FC_com]
  show (FC [] s).map (fun y => [] ++ y) = (FC [] s).map (fun y => [] ++ y)
  rfl, rfl, fun _ h => absurd h List.not_mem_nil⟩
theorem Vd.one {size : Int} {T : List Nat} {v : Val} (p : Pt size T v) {a b : List Nat} (ha : a ∈ LEAD) (hb : b ∈ TRAIL) : Vd size (a ++ (T ++ b)) [(T, v)] := by
  obtain ⟨h1, h2⟩ := piece p ha hb
  refine ⟨fun s => ?_, h2, fun q hq => ?_⟩
  · rw [List.append_assoc, List.append_assoc]
    exact h1 s
  · rw [List.mem_singleton.mp hq]; exact p
theorem Vd.add {size : Int} {V : List Nat} {D : List (List Nat × Val)} (w : Vd size V D) {T : List Nat} {v : Val} (p : Pt size T v) {a b : List Nat} (ha : a ∈ LEAD) (hb : b ∈ TRAIL) : Vd size (V ++ 44 :: (a ++ (T ++ b))) (D ++ [(T, v)]) := by
  obtain ⟨h1, h2⟩ := piece p ha hb
  refine ⟨fun s => ?_, ?_, fun q hq => ?_⟩
  · rw [List.append_assoc, List.cons_append, w.c, List.append_assoc, List.append_assoc, h1 s, Option.map_map]
    congr 1
    funext y
    simp
  · rw [w.c, h2]
    simp
  · rcases List.mem_append.mp hq with h | h
    · exact w.k q h
    · rw [List.mem_singleton.mp h]; exact p
def dueL (D : List (List Nat × Val)) : List Val := (D.map (·.2)).filter fun v => !(v == Val.tup [])
theorem dueL_snoc (D : List (List Nat × Val)) (T : List Nat) (v : Val) : dueL (D ++ [(T, v)]) = dueL D ++ (if v = .tup [] then [] else [v]) := by
  unfold dueL
  rw [List.map_append, List.filter_append]
  congr 1
  by_cases h : v = .tup []
  · subst h; rfl
  · rw [if_neg h]
    have : (v == Val.tup []) = false := by
      cases q : (v == Val.tup []) with
      | false => rfl
      | true => exact absurd (eq_of_beq q) h
    simp [this]
/-! read_ranges -/
theorem ranges_loop (g : Hs) (q : Nat) (all : List Val) (hq : g[q]? = some (.lst all)) (size : Int) (s0 s2 : Option Val) : ∀ (D : List (List Nat × Val)) (acc : List Val) (o4 o5 : Option Val), (∀ p ∈ D, Pt size p.1 p.2) → acc.length + D.length ≤ 1000 →
    (.non ∉ D.map (·.2) → ∃ t t', forV (forK (.nm 4) (exs (callsN G 6) f7_l0)) (.lst q all) ((D.map (·.1)).map Val.str) [s0, some (.int size), s2, some (.ref g.length), o4, o5] (g ++ [.lst acc]) = .nx [s0, some (.int size), s2, some (.ref g.length), t, t'] (g ++ [.lst (acc ++ dueL D)])) ∧
    (.non ∈ D.map (·.2) → ∃ j, forV (forK (.nm 4) (exs (callsN G 6) f7_l0)) (.lst q all) ((D.map (·.1)).map Val.str) [s0, some (.int size), s2, some (.ref g.length), o4, o5] (g ++ [.lst acc]) = .rt .non (g ++ j))
  | [], acc, o4, o5, _, _ => ⟨fun _ => ⟨o4, o5, by simp [forV, Src.ok, app_old hq, dueL]⟩, fun h => absurd h List.not_mem_nil⟩
  | p :: D, acc, o4, o5, hD, hl => by
    simp only [List.length_cons] at hl
    have fe : (callsN G 6).f = callN G 6 := rfl
    have hp := hD p List.mem_cons_self
    have rd := hp.rd
    have hD' := fun x hx => hD x (List.mem_cons_of_mem _ hx)
    have hq' := fun l => app_old (l := l) hq
    have l1 : acc.length < 16777216 := by omega
    obtain ⟨T, v⟩ := p
    simp only at rd
    rcases hp.val with hv | hv | ⟨a, b, hv, _⟩
    · simp only at hv
      subst hv
      refine ⟨fun h => absurd (by simp) h, fun _ => ⟨[.lst acc], ?_⟩⟩
      simp [forV, Src.ok, hq', forK, f7_l0, fe, rd]
    · simp only at hv
      subst hv
      have E1 : ∀ h, eqF h (.tup []) (.tup []) = some true := fun h => eq_ints h [] []
      obtain ⟨a1, a2⟩ := ranges_loop g q all hq size s0 s2 D acc (some (.str T)) (some (.tup [])) hD' (by omega)
      have step : forV (forK (.nm 4) (exs (callsN G 6) f7_l0)) (.lst q all) ((((T, Val.tup []) :: D).map (·.1)).map Val.str) [s0, some (.int size), s2, some (.ref g.length), o4, o5] (g ++ [.lst acc]) = forV (forK (.nm 4) (exs (callsN G 6) f7_l0)) (.lst q all) ((D.map (·.1)).map Val.str) [s0, some (.int size), s2, some (.ref g.length), some (.str T), some (.tup [])] (g ++ [.lst acc]) := by
        simp [-eqF, E1, forV, Src.ok, hq', forK, f7_l0, fe, rd]
      rw [step]
      refine ⟨fun h => ?_, fun h => ?_⟩
      · obtain ⟨t, t', w⟩ := a1 fun m => h (by rw [List.map_cons]; exact List.mem_cons_of_mem _ m)
        exact ⟨t, t', w⟩
      · rw [List.map_cons] at h
        rcases List.mem_cons.mp h with h | h
        · cases h
        · exact a2 h
    · simp only at hv
      subst hv
      have E1 : ∀ h, eqF h (.tup [.int a, .int b]) (.tup []) = some false := fun h => eq_ints h [a, b] []
      obtain ⟨a1, a2⟩ := ranges_loop g q all hq size s0 s2 D (acc ++ [.tup [.int a, .int b]]) (some (.str T)) (some (.tup [.int a, .int b])) hD' (by simp; omega)
      have step : forV (forK (.nm 4) (exs (callsN G 6) f7_l0)) (.lst q all) ((((T, Val.tup [.int a, .int b]) :: D).map (·.1)).map Val.str) [s0, some (.int size), s2, some (.ref g.length), o4, o5] (g ++ [.lst acc]) = forV (forK (.nm 4) (exs (callsN G 6) f7_l0)) (.lst q all) ((D.map (·.1)).map Val.str) [s0, some (.int size), s2, some (.ref g.length), some (.str T), some (.tup [.int a, .int b])] (g ++ [.lst (acc ++ [.tup [.int a, .int b]])]) := by
        simp [-eqF, E1, forV, Src.ok, hq', forK, f7_l0, fe, rd, l1]
      rw [step]
      have de : dueL ((T, Val.tup [.int a, .int b]) :: D) = .tup [.int a, .int b] :: dueL D := by
        unfold dueL
        rw [List.map_cons, List.filter_cons]
        rfl
      rw [de]
      refine ⟨fun h => ?_, fun h => ?_⟩
      · obtain ⟨t, t', w⟩ := a1 fun m => h (by rw [List.map_cons]; exact List.mem_cons_of_mem _ m)
        exact ⟨t, t', by rw [w]; simp⟩
      · rw [List.map_cons] at h
        rcases List.mem_cons.mp h with h | h
        · cases h
        · exact a2 h
def low (s : List Nat) : List Nat := (Txt.lower ⟨s.toArray⟩).cps.toList
def B6 : List Nat := [98, 121, 116, 101, 115, 61]
def PRE : List (List Nat) := [[98, 121, 116, 101, 115, 61], [66, 121, 116, 101, 115, 61], [66, 89, 84, 69, 83, 61], [98, 121, 116, 101, 115, 32, 61], [98, 105, 116, 115, 61], [98, 121, 116, 101, 115]]
theorem low_map {s : List Nat} (h : s.all (· < 128) = true) : low s = s.map PyProof.Rows.lo1 := by
  unfold low
  rw [show (⟨s.toArray⟩ : Str) = SX.S s from rfl, SX.lower_S h]
/-- what stands ahead of the value -/
theorem pre_ok {P V : List Nat} (hP : P ∈ PRE) (hV : ∀ c, V.head? = some c → c < 128 ∧ c ≠ 61) : (low P = B6 ∧ low ((P ++ V).take 6) = B6 ∧ (P ++ V).drop 6 = V) ∨ (low P ≠ B6 ∧ low ((P ++ V).take 6) ≠ B6) := by
  simp only [PRE, List.mem_cons, List.not_mem_nil, or_false] at hP
  rcases hP with rfl | rfl | rfl | rfl | rfl | rfl
  · exact .inl ⟨by kernel_rfl, by show low [98, 121, 116, 101, 115, 61] = _; kernel_rfl, rfl⟩
  · exact .inl ⟨by kernel_rfl, by show low [66, 121, 116, 101, 115, 61] = _; kernel_rfl, rfl⟩
  · exact .inl ⟨by kernel_rfl, by show low [66, 89, 84, 69, 83, 61] = _; kernel_rfl, rfl⟩
  · refine .inr ⟨?_, ?_⟩
    · rw [low_map (by decide)]; decide
    · show low [98, 121, 116, 101, 115, 32] ≠ _
      rw [low_map (by decide)]; decide
  · refine .inr ⟨?_, ?_⟩
    · rw [low_map (by decide)]; decide
    · cases V with
      | nil =>
        show low [98, 105, 116, 115, 61] ≠ _
        rw [low_map (by decide)]; decide
      | cons c V =>
        have := hV c rfl
        show low [98, 105, 116, 115, 61, c] ≠ _
        rw [low_map (by simp; exact this.1)]
        intro h
        have := congrArg (·[1]?) h
        revert this
        simp [PyProof.Rows.lo1, B6]
  · refine .inr ⟨?_, ?_⟩
    · rw [low_map (by decide)]; decide
    · cases V with
      | nil =>
        show low [98, 121, 116, 101, 115] ≠ _
        rw [low_map (by decide)]; decide
      | cons c V =>
        have hc := hV c rfl
        show low [98, 121, 116, 101, 115, c] ≠ _
        rw [low_map (by simp; exact hc.1)]
        intro h
        have := congrArg (·[5]?) h
        revert this
        simp only [List.map_cons, List.map_nil, B6, PyProof.Rows.lo1]
        intro this
        have e : (if 65 ≤ c ∧ c ≤ 90 then c + 32 else c) = 61 := by simpa using this
        split at e <;> omega
theorem low_eq (n : Nat) (h : Hs) {s : List Nat} (hl : s.length ≤ 5592405) : callN G (n + 1) 0 [.str s] h = .ok (.str (low s)) h := by
  rw [callN_eq (d := f0) rfl]
  simp [f0, hl, low]
theorem ranges_no (h : Hs) {W : List Nat} (size : Int) (hW : W.length ≤ 4000) (hl : low (W.take 6) ≠ B6) : callN G 7 7 [.str W, .int size] h = .ok .non h := by
  rw [callN_eq (d := f7) rfl]
  have fe : (callsN G 6).f = callN G 6 := rfl
  have le := fun h => low_eq 5 h (s := W.take 6) (by have := List.length_take_le 6 W; omega)
  have l1 : W.length ≤ 16777216 := by omega
  have c1 : cutL W none (some 6) = W.take 6 := cutL_to (by decide)
  have hl' : low (W.take 6) ≠ [98, 121, 116, 101, 115, 61] := hl
  simp [f7, fe, l1, c1, le, hl']
theorem ranges_yes (h : Hs) {W V : List Nat} (size : Int) {D : List (List Nat × Val)} (hW : W.length ≤ 4000) (hl : low (W.take 6) = B6) (hd : W.drop 6 = V) (vd : Vd size V D) (dl : D.length ≤ 100) :
    (¬ (1 ≤ D.length ∧ D.length ≤ 20) → ∃ j, callN G 7 7 [.str W, .int size] h = .ok .non (h ++ j)) ∧
    (.non ∈ D.map (·.2) → ∃ j, callN G 7 7 [.str W, .int size] h = .ok .non (h ++ j)) ∧
    (1 ≤ D.length ∧ D.length ≤ 20 → .non ∉ D.map (·.2) → ∃ (j : Hs) (p : Nat), callN G 7 7 [.str W, .int size] h = .ok (.ref p) (h ++ j) ∧ (h ++ j)[p]? = some (.lst (dueL D))) := by
  rw [callN_eq (d := f7) rfl]
  have fe : (callsN G 6).f = callN G 6 := rfl
  have g2 : (callsN G 6).glob 2 = some (.int 20) := rfl
  have le := fun h => low_eq 5 h (s := W.take 6) (by have := List.length_take_le 6 W; omega)
  rw [hl] at le
  have l1 : W.length ≤ 16777216 := by omega
  have c1 : cutL W none (some 6) = W.take 6 := cutL_to (by decide)
  have c2 : cutL W (some 6) none = V := by rw [cutL_from (by decide)]; exact hd
  have vl : V.length ≤ 4000 := by rw [← hd, List.length_drop]; omega
  obtain ⟨sp, _⟩ := split_eq h V vl
  have ve := vd.e
  obtain ⟨L, hL, hf⟩ : ∃ L, CT 44 V = some L ∧ full L = D.map (·.1) := by
    unfold FC at ve
    unfold CT trims
    cases q : cutA 44 false false [] V with
    | none => rw [q] at ve; cases ve
    | some ps =>
      rw [q] at ve
      exact ⟨_, rfl, by have := Option.some.inj ve; simpa using this⟩
  obtain ⟨j, q, w1, w2⟩ := sp L hL
  rw [hf] at w2
  obtain ⟨r1, r2⟩ := ranges_loop (h ++ j) q ((D.map (·.1)).map Val.str) w2 size (some (.str W)) (some (.ref q)) D [] none none vd.k (by simp; omega)
  rw [List.nil_append] at r1
  obtain ⟨g, hg⟩ : ∃ g, h ++ j = g := ⟨_, rfl⟩
  rw [hg] at w1 w2 r1 r2
  have ln : ((D.map (·.1)).map Val.str).length = D.length := by simp
  generalize (D.map (·.1)).map Val.str = Q at w2 r1 r2 ln
  unfold B6 at le
  have w2' := fun l => app_old (l := l) w2
  by_cases d1 : 1 ≤ D.length
  · have d1' : (1 : Int) ≤ Q.length := by omega
    by_cases d2 : D.length ≤ 20
    · have d2' : (Q.length : Int) ≤ 20 := by omega
      have d2n : Q.length ≤ 20 := by omega
      have d1n : 1 ≤ Q.length := by omega
      refine ⟨fun n => absurd ⟨d1, d2⟩ n, fun nn => ?_, fun _ nn => ?_⟩
      · obtain ⟨j2, w⟩ := r2 nn
        refine ⟨j ++ j2, ?_⟩
        rw [← List.append_assoc, hg]
        simp [f7, fe, g2, l1, c1, le, c2, w1, w2, w2', d1', d2', d2n, d1n, w]
      · obtain ⟨t, t', w⟩ := r1 nn
        refine ⟨j ++ [.lst (dueL D)], g.length, ?_, by rw [← List.append_assoc, hg]; simp⟩
        rw [← List.append_assoc, hg]
        simp [f7, fe, g2, l1, c1, le, c2, w1, w2, w2', d1', d2', d2n, d1n, w]
    · have d2' : ¬ (Q.length : Int) ≤ 20 := by omega
      have d2n : ¬ Q.length ≤ 20 := by omega
      have d1n : 1 ≤ Q.length := by omega
      have k : ∃ j, endF (exs (callsN G 6) f7.body [some (.str W), some (.int size), none, none, none, none] h) = .ok .non (h ++ j) := by
        refine ⟨j, ?_⟩
        rw [hg]
        simp [f7, fe, g2, l1, c1, le, c2, w1, w2, d1', d2', d2n, d1n]
      exact ⟨fun _ => k, fun _ => k, fun n => absurd n.2 d2⟩
  · have d1n : ¬ 1 ≤ Q.length := by omega
    have d1' : ¬ (1 : Int) ≤ Q.length := by omega
    have Q0 : Q = [] := List.length_eq_zero_iff.mp (by omega)
    have k : ∃ j, endF (exs (callsN G 6) f7.body [some (.str W), some (.int size), none, none, none, none] h) = .ok .non (h ++ j) := by
      refine ⟨j, ?_⟩
      rw [hg]
      rw [Q0] at w2
      simp [f7, fe, g2, l1, c1, le, c2, w1, w2]
    exact ⟨fun _ => k, fun _ => k, fun n => absurd n.1 d1⟩
/-! the law -/
theorem forV_rng {step : Val → Sl → Hs → O} {all : List Val} {P : Nat → Sl → Hs → Prop} (K : Nat) : ∀ (m k : Nat) {st : Sl} {h : Hs}, P k st h → k + m ≤ K → (∀ k st h, k < K → P k st h → okO (P (k + 1)) (step (.int (k : Int)) st h)) →
    ∃ st' h', forV step (.vals all) (rangeV (k : Int) 1 m) st h = .nx st' h' ∧ P (k + m) st' h'
  | 0, k, st, h, p, _, _ => ⟨st, h, by simp [rangeV, forV, Src.ok], p⟩
  | m + 1, k, st, h, p, hk, s => by
    have k1 := s k st h (by omega) p
    have e1 : k + (m + 1) = k + 1 + m := by omega
    rw [e1]
    have e2 : rangeV (k : Int) 1 (m + 1) = .int (k : Int) :: rangeV ((k + 1 : Nat) : Int) 1 m := rfl
    rw [e2]
    cases q : step (.int (k : Int)) st h with
    | nx st1 h1 =>
      rw [q] at k1
      obtain ⟨st2, h2, e2, p2⟩ := forV_rng (all := all) K m (k + 1) k1 (by omega) s
      exact ⟨st2, h2, by rw [← e2]; simp [forV, Src.ok, q], p2⟩
    | ct st1 h1 =>
      rw [q] at k1
      obtain ⟨st2, h2, e2, p2⟩ := forV_rng (all := all) K m (k + 1) k1 (by omega) s
      exact ⟨st2, h2, by rw [← e2]; simp [forV, Src.ok, q], p2⟩
    | rt _ _ => rw [q] at k1; exact k1.elim
    | bk _ _ => rw [q] at k1; exact k1.elim
    | exc _ _ _ => rw [q] at k1; exact k1.elim
    | stk => rw [q] at k1; exact k1.elim
/-- the state of the law's loop -/
def PW (P : List Nat) (size many : Int) (gd : Bool) (k : Nat) (st : Sl) (h : Hs) : Prop := ∃ (d : DS) (V : List Nat) (D : List (List Nat × Val)) (s6 : Val) (o7 o11 o12 : Option Val) (j : Hs), d.ok ∧ Vd size V D ∧ V.length ≤ 110 * k ∧ D.length = k ∧ (k = 0 → V = []) ∧ (∀ c, V.head? = some c → c < 128 ∧ c ≠ 61) ∧
  (.non ∈ D.map (·.2) → s6 = .non) ∧ (.non ∉ D.map (·.2) → ∃ q, s6 = .ref (3 + q) ∧ j[q]? = some (.lst (dueL D))) ∧
  st = [some (.ref 0), some (.ref 2), some (.int size), some (.int many), some (.str (P ++ V)), some (.bl gd), some s6, o7, none, none, none, o11, o12] ∧ h = d.hs ++ j
theorem head_piece {size : Int} {T : List Nat} {v : Val} (p : Pt size T v) {a : List Nat} (ha : a ∈ LEAD) (x : List Nat) : ∀ c, (a ++ (T ++ x)).head? = some c → c < 128 ∧ c ≠ 61 := fun c hc => by
  simp only [LEAD, List.mem_cons, List.not_mem_nil, or_false] at ha
  rcases ha with rfl | rfl | rfl | rfl
  · cases hT : T with
    | nil => exact absurd hT p.ne
    | cons u T' =>
      rw [hT] at hc
      exact p.hd c (by rw [hT]; exact hc)
  · cases hc; decide
  · cases hc; decide
  · cases hc; decide
theorem law_turn (n : Nat) {P : List Nat} (hP : P.length ≤ 7) {size many : Int} (s0 : 0 ≤ size) (s1 : size ≤ 1000000000000000) {gd : Bool} {k : Nat} {st : Sl} {h : Hs} (hk : k < 21) (p : PW P size many gd k st h) : okO (PW P size many gd (k + 1)) (forK (.nm 7) (exs (callsN G (n + 3)) f12_l0) (.int (k : Int)) st h) := by
  obtain ⟨d, V, D, s6, o7, o11, o12, j, ok, vd, vl, dl, v0, vh, k1, k2, rfl, rfl⟩ := p
  have fe : (callsN G (n + 3)).f = callN G (n + 3) := rfl
  obtain ⟨T, v, d1, j1, ok1, pt, c1⟩ := part_ex n ok j s0 s1
  obtain ⟨y, d2, ok2, a2, b2, t2⟩ := take_ex (G := G) (t := 9) (n := n + 2) rfl ok1 (many := 4) (by decide) (by decide)
  obtain ⟨z, d3, ok3, a3, b3, t3⟩ := take_ex (G := G) (t := 9) (n := n + 2) rfl ok2 (many := 2) (by decide) (by decide)
  obtain ⟨a, ha, ea⟩ := strs_pick (l := LEAD) a2 b2
  obtain ⟨b, hb, eb⟩ := strs_pick (l := TRAIL) a3 b3
  have la : a.length ≤ 2 := (show ∀ a ∈ LEAD, a.length ≤ 2 by decide) a ha
  have lb : b.length ≤ 1 := (show ∀ b ∈ TRAIL, b.length ≤ 1 by decide) b hb
  have lt := pt.len
  obtain ⟨cm, hcm⟩ : ∃ cm : List Nat, cm = if k = 0 then [] else [44] := ⟨_, rfl⟩
  have cml : cm.length ≤ 1 := by rw [hcm]; split <;> simp
  have vd' : Vd size (V ++ (cm ++ (a ++ (T ++ b)))) (D ++ [(T, v)]) := by
    rw [hcm]
    by_cases k0 : k = 0
    · have V0 := v0 k0
      have D0 : D = [] := List.length_eq_zero_iff.mp (by omega)
      subst V0 D0
      rw [if_pos k0]
      exact Vd.one pt ha hb
    · rw [if_neg k0]
      exact vd.add pt ha hb
  have vh' : ∀ c, (V ++ (cm ++ (a ++ (T ++ b)))).head? = some c → c < 128 ∧ c ≠ 61 := fun c hc => by
    cases hV : V with
    | cons u V' =>
      rw [hV] at hc vh
      exact vh c hc
    | nil =>
      rw [hV, List.nil_append] at hc
      by_cases k0 : k = 0
      · rw [hcm, if_pos k0, List.nil_append] at hc
        exact head_piece pt ha b c hc
      · rw [hcm, if_neg k0] at hc
        cases hc
        decide
  have vl' : (V ++ (cm ++ (a ++ (T ++ b)))).length ≤ 110 * (k + 1) := by simp only [List.length_append]; omega
  have l1 : P.length + (V.length + cm.length) ≤ 16777216 := by omega
  have l2 : P.length + (V.length + (cm.length + a.length)) ≤ 16777216 := by omega
  have l3 : P.length + (V.length + (cm.length + (a.length + T.length))) ≤ 16777216 := by omega
  have l4 : P.length + (V.length + (cm.length + (a.length + (T.length + b.length)))) ≤ 16777216 := by omega
  have l5 : P.length + (V.length + cm.length) + a.length ≤ 16777216 := by omega
  have l6 : P.length + (V.length + (cm.length + a.length)) + T.length ≤ 16777216 := by omega
  have l7 : P.length + (V.length + (cm.length + (a.length + T.length))) + b.length ≤ 16777216 := by omega
  have l8 : P.length + V.length + cm.length ≤ 16777216 := by omega
  simp only [strsV, LEAD, TRAIL, List.map_cons, List.map_nil] at ea eb
  obtain ⟨j2, hj2⟩ : ∃ j2, j2 = j ++ (j1 ++ [Ob.lst [.str [], .str [32], .str [32, 44], .str [9]], .lst [.str [], .str [32]]]) := ⟨_, rfl⟩
  have add : ∀ (s6' : Val) (jj : Hs), (.non ∈ (D ++ [(T, v)]).map (·.2) → s6' = .non) → (.non ∉ (D ++ [(T, v)]).map (·.2) → ∃ q, s6' = .ref (3 + q) ∧ (j2 ++ jj)[q]? = some (.lst (dueL (D ++ [(T, v)])))) →
      PW P size many gd (k + 1) [some (.ref 0), some (.ref 2), some (.int size), some (.int many), some (.str (P ++ (V ++ (cm ++ (a ++ (T ++ b)))))), some (.bl gd), some s6', some (.int k), none, none, none, some (.tup [.str T, v]), some (.str a)] (d3.hs ++ (j2 ++ jj)) := fun s6' jj h3 h4 =>
    ⟨d3, V ++ (cm ++ (a ++ (T ++ b))), D ++ [(T, v)], s6', _, _, _, j2 ++ jj, ok3, vd', vl', by simp [dl], fun h => absurd h (by omega), vh', h3, h4, rfl, rfl⟩
  rw [hj2] at add
  have mm : (D ++ [(T, v)]).map (·.2) = D.map (·.2) ++ [v] := by simp
  rw [mm] at add
  have ecm : ∀ h, ev (callsN G (n + 3)) (.ife (.cmp .Eq (.var 7) (.int 0)) (.str []) (.str [44])) [some (.ref 0), some (.ref 2), some (.int size), some (.int many), some (.str (P ++ V)), some (.bl gd), some s6, some (.int k), none, none, none, some (.tup [.str T, v]), some (.str a)] h = .ok (.str cm) h := fun h => by
    rw [hcm]
    by_cases k0 : k = 0
    · have : (k : Int) = 0 := by omega
      simp [this, k0]
    · have : ¬ (k : Int) = 0 := by omega
      simp [this, k0]
  have S0 : ∀ o7', ex (callsN G (n + 3)) (nth 0 f12_l0) [some (.ref 0), some (.ref 2), some (.int size), some (.int many), some (.str (P ++ V)), some (.bl gd), some s6, o7', none, none, none, o11, o12] (d.hs ++ j) = .nx [some (.ref 0), some (.ref 2), some (.int size), some (.int many), some (.str (P ++ V)), some (.bl gd), some s6, o7', none, none, none, some (.tup [.str T, v]), o12] (d1.hs ++ (j ++ j1)) := fun o7' => by
    simp [nth, f12_l0, fe, c1]
  have S1 : ∀ o7', ex (callsN G (n + 3)) (nth 1 f12_l0) [some (.ref 0), some (.ref 2), some (.int size), some (.int many), some (.str (P ++ V)), some (.bl gd), some s6, o7', none, none, none, some (.tup [.str T, v]), o12] (d1.hs ++ (j ++ j1)) = .nx [some (.ref 0), some (.ref 2), some (.int size), some (.int many), some (.str (P ++ V)), some (.bl gd), some s6, o7', none, none, none, some (.tup [.str T, v]), some (.str a)] (d2.hs ++ (j ++ (j1 ++ [Ob.lst [.str [], .str [32], .str [32, 44], .str [9]]]))) := fun o7' => by
    simp [nth, f12_l0, fe, t2, ea]
  have S2 : ex (callsN G (n + 3)) (nth 2 f12_l0) [some (.ref 0), some (.ref 2), some (.int size), some (.int many), some (.str (P ++ V)), some (.bl gd), some s6, some (.int k), none, none, none, some (.tup [.str T, v]), some (.str a)] (d2.hs ++ (j ++ (j1 ++ [Ob.lst [.str [], .str [32], .str [32, 44], .str [9]]]))) = .nx [some (.ref 0), some (.ref 2), some (.int size), some (.int many), some (.str (P ++ (V ++ (cm ++ (a ++ (T ++ b)))))), some (.bl gd), some s6, some (.int k), none, none, none, some (.tup [.str T, v]), some (.str a)] (d3.hs ++ (j ++ (j1 ++ [Ob.lst [.str [], .str [32], .str [32, 44], .str [9]], .lst [.str [], .str [32]]]))) := by
    have s2 : nth 2 f12_l0 = .asg (.nm 4) (.bin .Add (.bin .Add (.bin .Add (.bin .Add (.var 4) (.ife (.cmp .Eq (.var 7) (.int 0)) (.str []) (.str [44]))) (.var 12)) (.ix (.var 11) (.int 0))) (.ix (.lst (.cons (.str []) (.cons (.str [32]) .nil))) (.call 9 (.cons (.var 1) (.cons (.int 2) .nil))))) := rfl
    rw [s2]
    simp [-q_ev_ife, ecm, fe, t3, eb, l1, l2, l3, l4, l5, l6, l7, l8]
  have hb3 : f12_l0 = .cons (nth 0 f12_l0) (.cons (nth 1 f12_l0) (.cons (nth 2 f12_l0) (.cons (nth 3 f12_l0) .nil))) := rfl
  show okO (PW P size many gd (k + 1)) (exs (callsN G (n + 3)) f12_l0 [some (.ref 0), some (.ref 2), some (.int size), some (.int many), some (.str (P ++ V)), some (.bl gd), some s6, some (.int k), none, none, none, o11, o12] (d.hs ++ j))
  rw [hb3, q_exs_cons, S0, O.then_nx, q_exs_cons, S1, O.then_nx, q_exs_cons, S2, O.then_nx]
  clear S0 S1 S2 ecm t2 t3 c1
  rcases pt.val with bad | emp | ⟨u, w, hv, _⟩
  · subst bad
    have key := add .non [] (fun _ => rfl) (fun h => absurd (by simp) h)
    simp [nth, f12_l0]
    simpa using key
  · subst emp
    have E1 : ∀ h, eqF h (.tup []) (.tup []) = some true := fun h => eq_ints h [] []
    have du : dueL (D ++ [(T, Val.tup [])]) = dueL D := by rw [dueL_snoc, if_pos rfl, List.append_nil]
    rw [du] at add
    by_cases nn : .non ∈ D.map (·.2)
    · have e3 := k1 nn
      subst e3
      have key := add .non [] (fun _ => rfl) (fun h => absurd (List.mem_append_left _ nn) h)
      simp [-eqF, E1, nth, f12_l0]
      simpa using key
    · obtain ⟨q, e3, gq⟩ := k2 nn
      subst e3
      have key := add (.ref (3 + q)) [] (fun h => absurd h (by simpa using nn)) (fun _ => ⟨q, rfl, by rw [List.append_nil]; exact app_old gq⟩)
      simp [-eqF, E1, nth, f12_l0]
      simpa using key
  · subst hv
    have E1 : ∀ h, eqF h (.tup [.int u, .int w]) (.tup []) = some false := fun h => eq_ints h [u, w] []
    have du : dueL (D ++ [(T, Val.tup [.int u, .int w])]) = dueL D ++ [.tup [.int u, .int w]] := by rw [dueL_snoc, if_neg (by simp)]
    rw [du] at add
    by_cases nn : .non ∈ D.map (·.2)
    · have e3 := k1 nn
      subst e3
      have key := add .non [] (fun _ => rfl) (fun h => absurd (List.mem_append_left _ nn) h)
      simp [-eqF, E1, nth, f12_l0]
      simpa using key
    · obtain ⟨q, e3, gq⟩ := k2 nn
      subst e3
      have key := add (.ref (3 + ((j ++ (j1 ++ [Ob.lst [.str [], .str [32], .str [32, 44], .str [9]], .lst [.str [], .str [32]]])).length + 1))) [.lst [.tup [.int u, .int w]], .lst (dueL D ++ [.tup [.int u, .int w]])] (fun h => absurd h (by simpa using nn)) (fun _ => ⟨_, rfl, by rw [app_get]; rfl⟩)
      have gq' := fun l => app_old (l := l) gq
      have ld : (dueL D).length + 1 ≤ 16777216 := by
        have : (dueL D).length ≤ (D.map (·.2)).length := List.length_filter_le _ _
        rw [List.length_map] at this
        omega
      generalize dueL D = DV at gq' ld key
      simp [-eqF, E1, nth, f12_l0, gq', ld]
      simpa [Nat.add_assoc] using key
theorem chk_loop (h : Hs) (q : Nat) (all : List Val) (hq : h[q]? = some (.lst all)) (n : Nat) (size : Int) (s0 s1 s3 s4 s5 s6 s7 s8 s11 s12 : Option Val) : ∀ (vs : List Val) (o9 o10 : Option Val), (∀ v ∈ vs, ∃ a b : Int, v = .tup [.int a, .int b] ∧ 0 ≤ a ∧ a ≤ b ∧ b < size) →
    ∃ t t', forV (forK (.tup [9, 10]) (exs (callsN G n) f12_l1)) (.lst q all) vs [s0, s1, some (.int size), s3, s4, s5, s6, s7, s8, o9, o10, s11, s12] h = .nx [s0, s1, some (.int size), s3, s4, s5, s6, s7, s8, t, t', s11, s12] h
  | [], o9, o10, _ => ⟨o9, o10, by simp [forV, Src.ok, hq]⟩
  | v :: vs, o9, o10, hv => by
    obtain ⟨a, b, rfl, h1, h2, h3⟩ := hv v List.mem_cons_self
    obtain ⟨t, t', w⟩ := chk_loop h q all hq n size s0 s1 s3 s4 s5 s6 s7 s8 s11 s12 vs (some (.int a)) (some (.int b)) fun x hx => hv x (List.mem_cons_of_mem _ hx)
    refine ⟨t, t', ?_⟩
    rw [← w]
    simp [forV, Src.ok, hq, forK, f12_l1, h1, h2, h3]
theorem due_val {size : Int} {D : List (List Nat × Val)} (k : ∀ p ∈ D, Pt size p.1 p.2) (nn : .non ∉ D.map (·.2)) : ∀ v ∈ dueL D, ∃ a b : Int, v = .tup [.int a, .int b] ∧ 0 ≤ a ∧ a ≤ b ∧ b < size := fun v hv => by
  obtain ⟨m, c⟩ := List.mem_filter.mp hv
  obtain ⟨p, hp, rfl⟩ := List.mem_map.mp m
  rcases (k p hp).val with h | h | h
  · rw [h] at m; exact absurd m nn
  · rw [h] at c; exact absurd c (by decide)
  · exact h
theorem lawN (ns : List Int) (hn : ns.length ≤ 63) : ∃ h', callN G 8 12 [.ref 0] (script ns) = .ok (.bl true) h' := by
  rw [callN_eq (d := f12) rfl]
  have fe : (callsN G 7).f = callN G 7 := rfl
  have dr := draw_eq (G := G) (t := 8) (n := 6) rfl ns hn
  obtain ⟨x1, d1, ok1, a1, b1, t1⟩ := take_exB (G := G) (t := 9) (n := 6) rfl (drawD_ok ns) (many := 1000000000000000) (by decide) (by decide)
  obtain ⟨x2, d2, ok2, a2, b2, t2⟩ := take_ex (G := G) (t := 9) (n := 6) rfl ok1 (many := 5) (by decide) (by decide)
  obtain ⟨x3, d3, ok3, a3, b3, t3⟩ := take_ex (G := G) (t := 9) (n := 6) rfl ok2 (many := 6) (by decide) (by decide)
  obtain ⟨x4, d4, ok4, a4, b4, t4⟩ := take_ex (G := G) (t := 9) (n := 6) rfl ok3 (many := 7) (by decide) (by decide)
  obtain ⟨x5, d5, ok5, a5, b5, t5⟩ := take_ex (G := G) (t := 9) (n := 6) rfl ok4 (many := 12) (by decide) (by decide)
  obtain ⟨size, hsz, z0, z1⟩ : ∃ size : Int, atI [Val.int 0, .int 1, .int 10, .int 1000, .int x1] x2 = some (.int size) ∧ 0 ≤ size ∧ size ≤ 1000000000000000 := by
    have : x2 = 0 ∨ x2 = 1 ∨ x2 = 2 ∨ x2 = 3 ∨ x2 = 4 := by omega
    rcases this with rfl | rfl | rfl | rfl | rfl
    · exact ⟨0, rfl, by decide, by decide⟩
    · exact ⟨1, rfl, by decide, by decide⟩
    · exact ⟨10, rfl, by decide, by decide⟩
    · exact ⟨1000, rfl, by decide, by decide⟩
    · exact ⟨x1, rfl, by omega, by omega⟩
  obtain ⟨mn, hmn, m1⟩ : ∃ mn : Nat, atI [Val.int 1, .int 2, .int 3, .int 0, .int 20, .int 21, .int (1 + x3)] x4 = some (.int mn) ∧ mn ≤ 21 := by
    have : x4 = 0 ∨ x4 = 1 ∨ x4 = 2 ∨ x4 = 3 ∨ x4 = 4 ∨ x4 = 5 ∨ x4 = 6 := by omega
    rcases this with rfl | rfl | rfl | rfl | rfl | rfl | rfl
    · exact ⟨1, rfl, by decide⟩
    · exact ⟨2, rfl, by decide⟩
    · exact ⟨3, rfl, by decide⟩
    · exact ⟨0, rfl, by decide⟩
    · exact ⟨20, rfl, by decide⟩
    · exact ⟨21, rfl, by decide⟩
    · refine ⟨(1 + x3).toNat, ?_, by omega⟩
      have : (((1 + x3).toNat : Nat) : Int) = 1 + x3 := by omega
      rw [this]
      rfl
  obtain ⟨P, hP, eP⟩ := strs_pick (l := PRE) (y := if x5 - 6 > 0 then x5 - 6 else 0) (by split <;> omega) (by show _ < 6; split <;> omega)
  have Pl : P.length ≤ 7 := (show ∀ P ∈ PRE, P.length ≤ 7 by decide) P hP
  simp only [strsV, PRE, List.map_cons, List.map_nil] at eP
  obtain ⟨J, hJ⟩ : ∃ J : Hs, J = [.lst [.int 0, .int 1, .int 10, .int 1000, .int x1], .lst [.int 1, .int 2, .int 3, .int 0, .int 20, .int 21, .int (1 + x3)], .lst (strsV PRE), .lst []] := ⟨_, rfl⟩
  have J3 : J[3]? = some (.lst []) := by rw [hJ]; rfl
  have t1' := t1 []
  simp only [List.append_nil] at t1'
  have Z : List (Option Val) := []
  have y0 : ex (callsN G 7) (nth 0 f12.body) [some (.ref 0), none, none, none, none, none, none, none, none, none, none, none, none] (script ns) = .nx [some (.ref 0), some (.ref 2), none, none, none, none, none, none, none, none, none, none, none] (drawD ns).hs := by
    simp [nth, f12, fe, script, dr]
  have y1 : ex (callsN G 7) (nth 1 f12.body) [some (.ref 0), some (.ref 2), none, none, none, none, none, none, none, none, none, none, none] (drawD ns).hs = .nx [some (.ref 0), some (.ref 2), some (.int size), none, none, none, none, none, none, none, none, none, none] (d2.hs ++ [.lst [.int 0, .int 1, .int 10, .int 1000, .int x1]]) := by
    simp [nth, f12, fe, t1', t2, hsz]
  have y2 : ex (callsN G 7) (nth 2 f12.body) [some (.ref 0), some (.ref 2), some (.int size), none, none, none, none, none, none, none, none, none, none] (d2.hs ++ [.lst [.int 0, .int 1, .int 10, .int 1000, .int x1]]) = .nx [some (.ref 0), some (.ref 2), some (.int size), some (.int mn), none, none, none, none, none, none, none, none, none] (d4.hs ++ [.lst [.int 0, .int 1, .int 10, .int 1000, .int x1], .lst [.int 1, .int 2, .int 3, .int 0, .int 20, .int 21, .int (1 + x3)]]) := by
    simp [nth, f12, fe, t3, t4, hmn]
  have y3 : ∀ R : Hs, ex (callsN G 7) (nth 3 f12.body) [some (.ref 0), some (.ref 2), some (.int size), some (.int mn), none, none, none, none, none, none, none, none, none] (d4.hs ++ R) = .nx [some (.ref 0), some (.ref 2), some (.int size), some (.int mn), some (.str P), none, none, none, none, none, none, none, none] (d5.hs ++ (R ++ [.lst (strsV PRE)])) := fun R => by
    simp only [gt_iff_lt, Int.sub_pos] at eP
    simp [nth, f12, fe, t5, eP, strsV, PRE]
  have y4 : ∀ R : Hs, ex (callsN G 7) (nth 4 f12.body) [some (.ref 0), some (.ref 2), some (.int size), some (.int mn), some (.str P), none, none, none, none, none, none, none, none] R = .nx [some (.ref 0), some (.ref 2), some (.int size), some (.int mn), some (.str P), some (.bl (decide (low P = B6))), none, none, none, none, none, none, none] R := fun R => by
    have l1 : P.length ≤ 5592405 := by omega
    simp [nth, f12, l1, low, B6]
    exact decide_eq_decide.mpr Iff.rfl
  have y5 : ex (callsN G 7) (nth 5 f12.body) [some (.ref 0), some (.ref 2), some (.int size), some (.int mn), some (.str P), some (.bl (decide (low P = B6))), none, none, none, none, none, none, none] (d5.hs ++ ([.lst [.int 0, .int 1, .int 10, .int 1000, .int x1], .lst [.int 1, .int 2, .int 3, .int 0, .int 20, .int 21, .int (1 + x3)]] ++ [.lst (strsV PRE)])) = .nx [some (.ref 0), some (.ref 2), some (.int size), some (.int mn), some (.str P), some (.bl (decide (low P = B6))), some (.ref (3 + 3)), none, none, none, none, none, none] (d5.hs ++ J) := by
    rw [hJ]
    generalize strsV PRE = SP
    simp [nth, f12]
  obtain ⟨st', h', e6, d6, V, D, s6, o7, o11, o12, j, ok6, vd, vl, dl, _, vh, k1, k2, rfl, rfl⟩ := forV_rng (step := forK (.nm 7) (exs (callsN G 7) f12_l0)) (all := rangeV 0 1 mn) (P := PW P size mn (decide (low P = B6))) 21 mn 0
    (st := [some (.ref 0), some (.ref 2), some (.int size), some (.int mn), some (.str P), some (.bl (decide (low P = B6))), some (.ref (3 + 3)), none, none, none, none, none, none]) (h := d5.hs ++ J)
    ⟨d5, [], [], .ref (3 + 3), none, none, none, J, ok5, Vd.nil, by decide, rfl, fun _ => rfl, fun c h => (by cases h), fun h => absurd h List.not_mem_nil, fun _ => ⟨3, rfl, J3⟩, by simp, rfl⟩ (by omega) (fun k st h hk p => law_turn 4 Pl z0 z1 hk p)
  have y6' : ∀ M : Int, M.toNat = mn → -4611686018427387904 ≤ M → M < 4611686018427387904 → ex (callsN G 7) (nth 6 f12.body) [some (.ref 0), some (.ref 2), some (.int size), some (.int M), some (.str P), some (.bl (decide (low P = B6))), some (.ref (3 + 3)), none, none, none, none, none, none] (d5.hs ++ J) = forV (forK (.nm 7) (exs (callsN G 7) f12_l0)) (.vals (rangeV 0 1 mn)) (rangeV 0 1 mn) [some (.ref 0), some (.ref 2), some (.int size), some (.int M), some (.str P), some (.bl (decide (low P = B6))), some (.ref (3 + 3)), none, none, none, none, none, none] (d5.hs ++ J) := fun M tn hm1 hm2 => by
    have s7 : nth 6 f12.body = .fors (.nm 7) (.rng1 (.var 3)) f12_l0 := rfl
    rw [s7]
    simp [hm1, hm2, tn]
  have y6 : ex (callsN G 7) (nth 6 f12.body) [some (.ref 0), some (.ref 2), some (.int size), some (.int mn), some (.str P), some (.bl (decide (low P = B6))), some (.ref (3 + 3)), none, none, none, none, none, none] (d5.hs ++ J) = .nx [some (.ref 0), some (.ref 2), some (.int size), some (.int mn), some (.str (P ++ V)), some (.bl (decide (low P = B6))), some s6, o7, none, none, none, o11, o12] (d6.hs ++ j) := by
    rw [y6' mn (by omega) (by omega) (by omega)]
    exact e6
  rw [Nat.zero_add] at vl dl
  have hb : f12.body = .cons (nth 0 f12.body) (.cons (nth 1 f12.body) (.cons (nth 2 f12.body) (.cons (nth 3 f12.body) (.cons (nth 4 f12.body) (.cons (nth 5 f12.body) (.cons (nth 6 f12.body) (.cons (nth 7 f12.body) (.cons (nth 8 f12.body) (.cons (nth 9 f12.body) (.cons (nth 10 f12.body) (.cons (nth 11 f12.body) (.cons (nth 12 f12.body) .nil)))))))))))) := rfl
  suffices fin : ∃ h', exs (callsN G 7) (.cons (nth 7 f12.body) (.cons (nth 8 f12.body) (.cons (nth 9 f12.body) (.cons (nth 10 f12.body) (.cons (nth 11 f12.body) (.cons (nth 12 f12.body) .nil)))))) [some (.ref 0), some (.ref 2), some (.int size), some (.int mn), some (.str (P ++ V)), some (.bl (decide (low P = B6))), some s6, o7, none, none, none, o11, o12] (d6.hs ++ j) = .rt (.bl true) h' by
    obtain ⟨h', fin⟩ := fin
    refine ⟨h', ?_⟩
    show endF (exs (callsN G 7) f12.body [some (.ref 0), none, none, none, none, none, none, none, none, none, none, none, none] (script ns)) = _
    rw [hb, q_exs_cons, y0, O.then_nx, q_exs_cons, y1, O.then_nx, q_exs_cons, y2, O.then_nx, q_exs_cons, y3, O.then_nx, q_exs_cons, y4, O.then_nx, q_exs_cons, y5, O.then_nx, q_exs_cons, y6, O.then_nx, fin]
    rfl
  have Wl : (P ++ V).length ≤ 4000 := by rw [List.length_append]; omega
  clear y6' y0 y1 y2 y3 y4 y5 y6 t1 t1' t2 t3 t4 t5 dr e6 hsz hmn eP
  rcases pre_ok hP vh with ⟨lp, lt, ld⟩ | ⟨lp, lt⟩
  · have gd : decide (low P = B6) = true := decide_eq_true lp
    rw [gd]
    obtain ⟨r1, r2, r3⟩ := ranges_yes (d6.hs ++ j) size Wl lt ld vd (by omega)
    generalize P ++ V = W at r1 r2 r3
    by_cases c : 1 ≤ mn ∧ mn ≤ 20
    · have c1 : (1 : Int) ≤ mn := by omega
      have c2 : (mn : Int) ≤ 20 := by omega
      by_cases nn : .non ∈ D.map (·.2)
      · obtain ⟨jj, w⟩ := r2 nn
        have := k1 nn
        subst this
        refine ⟨d6.hs ++ j ++ jj, ?_⟩
        generalize d6.hs ++ j = R at w ⊢
        simp [nth, f12, fe, c1, c2, c.1, c.2, w]
      · obtain ⟨jj, p, w, gp⟩ := r3 (by omega) nn
        obtain ⟨q, rfl, gq⟩ := k2 nn
        have dv := due_val vd.k nn
        have o1 : okVs (dueL D) = true := okVs_all fun v hv => by obtain ⟨a, b, rfl, _⟩ := dv v hv; rfl
        have o3 : vdeps (dueL D) ≤ 1 := vdeps_all fun v hv => by obtain ⟨a, b, rfl, _⟩ := dv v hv; exact Nat.le_refl _
        have gq' : (d6.hs ++ j ++ jj)[3 + q]? = some (.lst (dueL D)) := by rw [List.append_assoc, hs_get']; exact app_old gq
        have E := eq_lst_refl gp gq' o1 (by omega)
        obtain ⟨t, t', lo⟩ := chk_loop (d6.hs ++ j ++ jj) p (dueL D) gp 7 size (some (.ref 0)) (some (.ref 2)) (some (.int mn)) (some (.str W)) (some (.bl true)) (some (.ref (3 + q))) o7 (some (.ref p)) o11 o12 (dueL D) none none dv
        refine ⟨d6.hs ++ j ++ jj, ?_⟩
        generalize dueL D = DV at gp gq' E lo
        generalize hR : d6.hs ++ j ++ jj = R at w gp gq' E lo ⊢
        generalize d6.hs ++ j = R0 at w ⊢
        simp [-eqF, nth, f12, fe, c1, c2, c.1, c.2, w, gp, gq', E, lo]
    · obtain ⟨jj, w⟩ := r1 (by omega)
      refine ⟨d6.hs ++ j ++ jj, ?_⟩
      generalize d6.hs ++ j = R at w ⊢
      by_cases c1 : 1 ≤ mn
      · have c2 : ¬ mn ≤ 20 := fun h => c ⟨c1, h⟩
        have c1' : (1 : Int) ≤ mn := by omega
        have c2' : ¬ (mn : Int) ≤ 20 := by omega
        simp [nth, f12, fe, c1, c2, c1', c2', w]
      · have c1' : ¬ (1 : Int) ≤ mn := by omega
        have m0 : mn = 0 := by omega
        subst m0
        simp [nth, f12, fe, w]
  · have gd : decide (low P = B6) = false := decide_eq_false lp
    rw [gd]
    have w := ranges_no (d6.hs ++ j) size Wl lt
    generalize P ++ V = W at w
    refine ⟨d6.hs ++ j, ?_⟩
    generalize d6.hs ++ j = R at w ⊢
    simp [nth, f12, fe, w]
end LK
theorem PySem.Challenge.cw_ownanswer_k59_ranges_read_holds : PySem.Challenge.rw_ownanswer_k59_ranges_read.Holds := by
  exact LK.finish 8 ⟨rfl, by decide, by decide⟩ fun ns hn => LK.lawN ns hn
