import PyProof.Rows.All
import Wide.All
import OpenK.AllK
import Wide.FinOn
import HandS.Base
import HandS.Call
import HandS.List
import HandS.Text
import HandS.Comp
import HandS.Walk
import HandS.Dict
import HandS.Exc
import HandS.ExcOwn
import HandS.Wide
import HandS.TupAny
import HandS.Flow
import HandS.IsInst
import HandS.RaiseMore
import HandS.Style
import HandS.Property
import HandS.Defaults
import HandS.Words
import HandS.Iter
import HandS.Zip
import HandS.Conv
import HandS.Lambda
import HandS.TryOnly
import OpenK.KMeth
import OpenK.KOps
import PyProof.CollectStr
import HandS.Strs
import HandS.Codes
import HandS.ExcInit
import HandS.ExcField
import HandS.Ends
import PySem.Challenge.RW_seenchoices_k08_edit_rows_read
set_option Elab.async false
set_option linter.all false
set_option maxRecDepth 100000
set_option maxHeartbeats 4000000
/-! A small interpreter for the part of Python that the program and the laws use; values without addresses, tuples immediate. -/
namespace MP
open PySem PySem.Spec PyProof.Rows L2

/-- a value: tuples are immediate, mutable objects stand in a heap by number -/
inductive W where
  | non | bl (b : Bool) | int (i : Int) | str (x : Str) | tup (ws : List W) | slst (ws : List W) | sdct (kvs : List (Key × W)) | ref (n : Nat)
  deriving Inhabited

/-- an object of the heap -/
inductive O where
  | lst (ws : List W)
  | dct (kvs : List (Key × W))
  | ins (c : Str) (fs : List (Str × W))

/-- an exception: its class and its field, if any -/
structure Exn where
  cls : Str
  fs : List (Str × W)

inductive R (α : Type) where
  | ok (a : α) (h : List O)
  | exc (x : Exn) (h : List O)
  | stuck
/-- keeps simp out of what stands there -/
inductive Tag {α : Type} (a : α) : Type where
  | mk
namespace R
def bind {α β : Type} (r : R α) (f : α → List O → R β) (_t : Tag f := .mk) : R β := match r with
  | .ok a h => f a h
  | .exc x h => .exc x h
  | .stuck => .stuck
@[simp] theorem bind_ok {α β : Type} (a : α) (h : List O) (f : α → List O → R β) : (R.ok a h).bind f = f a h := rfl
@[simp] theorem bind_exc {α β : Type} (x : Exn) (h : List O) (f : α → List O → R β) : (R.exc x h : R α).bind f = .exc x h := rfl
@[simp] theorem bind_stuck {α β : Type} (f : α → List O → R β) : (R.stuck : R α).bind f = .stuck := rfl
end R
/-- where no exception may come out -/
def noX {α : Type} (r : R α) : R α := match r with
  | .ok a h => .ok a h
  | _ => .stuck
/-- the locals: by slot -/
abbrev Lo := List (Option W)
/-- on only where a check holds -/
def chk {α : Type} (b : Bool) (r : R α) : R α := if b = true then r else .stuck
@[simp] theorem chk_true {α : Type} (r : R α) : chk true r = r := rfl

/-! ### syntax -/
/-- operations of one operand, with a value -/
inductive P1 where
  | sst (lo hi : Option Int) (k : Int)
  | lset
mutual
inductive Me where
  | var (i : Nat)
  | glob (x : Str)
  | non | bl (b : Bool) | int (i : Int) | str (x : Str)
  | tup (es : Mes)
  | lst (es : Mes)
  | dct (kvs : Mks)
  | lrep (a n : Me)
  | lcat (a b : Me)
  | lcut (a : Me) (lo hi : Mo)
  | bin (op : Operator) (a b : Me)
  | neg (a : Me)
  | not (a : Me)
  | boolop (op : BoolOp) (es : Mes)
  | cmp (op : CmpOp) (a b : Me)
  | chain (op1 op2 : CmpOp) (a b c : Me)
  | ife (c a b : Me)
  | call (f : Str) (es : Mes)
  | blt (f : Str) (es : Mes)
  | isi (a : Me) (ts : List String)
  | sub (a i : Me)
  | slice (a : Me) (lo hi : Mo)
  | attr (a : Me) (f : Str)
  | bm (m : Str) (a : Me) (es : Mes)
  | lcomp (elt : Me) (tg : Mt) (src : Mi) (ifs : Mo) (own : List Nat)
  | frz (a : Me)
  | frd (kvs : Mks)
  | callf (f : Str) (es : Mes) (ks : List Str) (kes : Mes)
  | meth (a : Me) (m : Str) (es : Mes) (ks : List Str) (kes : Mes)
  | new (c : Str) (es : Mes) (ks : List Str) (kes : Mes)
  | olen (a : Me)
  | dg1 (d k : Me)
  | dg2 (d k x : Me)
  | dix (d k : Me)
  | int1 (a : Me)
  | rev (a : Me)
  | srt (a : Me)
  | isc (a : Me) (c : Str)
  | isx (a : Me) (ts : List String)
  | oin (neg : Bool) (a b : Me)
  | p1 (o : P1) (a : Me)
inductive Mes where
  | nil
  | cons (e : Me) (es : Mes)
inductive Mks where
  | nil
  | cons (k v : Me) (r : Mks)
inductive Mo where
  | none
  | some (e : Me)
inductive Mt where
  | name (i : Nat)
  | tup (ts : Mts)
  | sub (a i : Me)
inductive Mts where
  | nil
  | cons (t : Mt) (ts : Mts)
inductive Mi where
  | val (e : Me)
  | range (es : Mes)
  | zip (a b : Me)
  | enum (a : Me)
end
/-- a parameter's value: one of those written, or a default -/
inductive Ar where
  | at (i : Nat) | dv (w : W)
/-- what a clause hands back: texts and fields of what it caught -/
inductive Hx where
  | lit (s : Str) | fld (f : Str)
  deriving DecidableEq
/-- what a clause hands back: a list, whether a field and a name look alike, or one of two constants by that -/
inductive Hr where
  | lst (items : List Hx)
  | eqr (f : Str) (j : Nat)
  | ifr (f : Str) (j : Nat) (a b : W)
/-- except cls as (slot): return .. -/
structure Hd where
  cls : Str
  slot : Nat
  ret : Hr
mutual
inductive Ms where
  | asg (t : Mt) (e : Me)
  | par (i j : Nat) (a b : Me)
  | par3 (i j l : Nat) (a b d : Me)
  | expr (e : Me)
  | ret (e : Me)
  | retN
  | pass | brk | cont
  | ife (c : Me) (a b : Mss)
  | for (t : Mt) (s : Mi) (b : Mss)
  | while (c : Me) (b : Mss)
  | raise (c f : Str) (e : Me)
  | sat (a : Me) (f : Str) (e : Me)
  | nev
  | try (b : Mss) (hs : List Hd)
inductive Mss where
  | nil
  | cons (s : Ms) (ss : Mss)
end

/-! ### operations on values -/
def keyD : Key → PyData
  | .inl i => .int i
  | .inr x => .str x
/-- the data that a value is, some levels deep -/
def toD (h : List O) : Nat → W → Option PyData
  | _, .non => some .none
  | _, .bl b => some (.bool b)
  | _, .int i => some (.int i)
  | _, .str x => some (.str x)
  | 0, .tup _ => none
  | 0, .slst _ => none
  | 0, .sdct _ => none
  | 0, .ref _ => none
  | n + 1, .tup ws => (ws.mapM (toD h n)).map .tuple
  | n + 1, .slst ws => (ws.mapM (toD h n)).map .list
  | n + 1, .sdct kvs => (kvs.mapM fun kv => (toD h n kv.2).map fun d => (keyD kv.1, d)).map .dict
  | n + 1, .ref i => match h[i]? with
    | some (.lst ws) => (ws.mapM (toD h n)).map .list
    | some (.dct kvs) => (kvs.mapM fun kv => (toD h n kv.2).map fun d => (keyD kv.1, d)).map .dict
    | _ => none
abbrev dDepth : Nat := 12

/-- scalars that the machine compares at once -/
def scalW : W → W → Bool
  | .non, .non => true | .non, .int _ => true | .int _, .non => true | .non, .bl _ => true | .bl _, .non => true | .non, .str _ => true | .str _, .non => true
  | .int _, .int _ => true | .bl _, .bl _ => true | .str _, .str _ => true
  | .int _, .str _ => true | .str _, .int _ => true | .bl _, .str _ => true | .str _, .bl _ => true
  | _, _ => false
def eqS : W → W → Bool
  | .non, .non => true
  | .int i, .int j => i == j
  | .bl i, .bl j => i == j
  | .str i, .str j => i == j
  | _, _ => false
/-- == -/
def eqW (h : List O) (x y : W) : Option Bool :=
  if scalW x y = true then some (eqS x y) else
  match toD h dDepth x, toD h dDepth y with
  | some d, some e => if (SeqAt.shaped d && SeqAt.shaped e) = true then some (PyData.eqv d e) else none
  | _, _ => none

def flatW : W → Bool
  | .non => true | .bl _ => true | .int _ => true | .str _ => true
  | _ => false
def eqF : W → W → Bool
  | .non, .non => true
  | .bl a, .bl b => a == b
  | .bl a, .int b => (if a then 1 else 0) == b
  | .int a, .bl b => a == (if b then 1 else 0)
  | .int a, .int b => a == b
  | .str a, .str b => a == b
  | _, _ => false
/-- the items of a list or a tuple -/
def seqW (h : List O) : W → Option (List W)
  | .tup ws => some ws
  | .slst ws => some ws
  | .ref n => match h[n]? with
    | some (.lst ws) => some ws
    | _ => none
  | _ => none
def oB (o : Option Bool) (h : List O) : R W := match o with
  | some b => .ok (.bl b) h
  | none => .stuck
def inW (h : List O) (x y : W) : Option Bool := match x, y with
  | .str a, .str b => some (!(Builtin.Str.occurrences b a 0 b.length 1).isEmpty)
  | x, y => match seqW h y with
    | some ws => if (flatW x && ws.all flatW) = true then some (ws.any fun z => eqF z x) else none
    | none => none
def isW (x y : W) : Option Bool := match y with
  | .non => some (match x with | .non => true | _ => false)
  | .bl b => (match x with | .bl a => some (decide (a = b)) | _ => none)
  | _ => none
def cmpI (op : CmpOp) (i j : Int) : Bool := match op with
  | .Lt => decide (i < j) | .LtE => decide (i ≤ j) | .Gt => decide (j < i) | .GtE => decide (j ≤ i)
  | _ => false
def cmpW (op : CmpOp) (x y : W) (h : List O) : R W := match op with
  | .Eq => oB (eqW h x y) h
  | .NotEq => oB ((eqW h x y).map (!·)) h
  | .In => oB (inW h x y) h
  | .NotIn => oB ((inW h x y).map (!·)) h
  | .Is => oB (isW x y) h
  | .IsNot => oB ((isW x y).map (!·)) h
  | op => match x, y with
    | .int i, .int j => .ok (.bl (cmpI op i j)) h
    | _, _ => .stuck

def mulOk (i j : Int) : Bool := decide (-(2 ^ 64) < i ∧ i < 2 ^ 64) || (decide (-(2 ^ 64) < j ∧ j < 2 ^ 64) || decide (i.natAbs.log2 + j.natAbs.log2 < 1000000))
def divOk (j : Int) : Bool := decide (j ≠ 0 ∧ j.natAbs < 1073741824) || decide (0 < j ∧ j.natAbs.log2 < 9000)
def powOk (i j : Int) : Bool := decide (0 ≤ j ∧ j ≤ 1000000 ∧ i.natAbs < 2 ^ 64)
def alloc (o : O) (h : List O) : R W := .ok (.ref h.length) (h ++ [o])
def binW (op : Operator) (x y : W) (h : List O) : R W := match op, x, y with
  | .Add, .int i, .int j => .ok (.int (i + j)) h
  | .Add, .tup a, .tup b => chk (decide (a.length + b.length ≤ sizeLine)) (.ok (.tup (a ++ b)) h)
  | .Add, .slst a, .slst b => chk (decide (a.length + b.length ≤ sizeLine)) (.ok (.slst (a ++ b)) h)
  | .Add, .ref m, .ref n => match h[m]?, h[n]? with
    | some (.lst a), some (.lst b) => chk (decide (a.length + b.length ≤ sizeLine)) (alloc (.lst (a ++ b)) h)
    | _, _ => .stuck
  | .Add, .str i, .str j => chk (decide (i.length + j.length ≤ sizeLine)) (.ok (.str (i ++ j)) h)
  | .Sub, .int i, .int j => .ok (.int (i - j)) h
  | .Mult, .int i, .int j => chk (mulOk i j) (.ok (.int (i * j)) h)
  | .FloorDiv, .int i, .int j => chk (divOk j) (.ok (.int (i.fdiv j)) h)
  | .Mod, .int i, .int j => chk (decide (j ≠ 0)) (.ok (.int (i.fmod j)) h)
  | .Pow, .int i, .int j => chk (powOk i j) (.ok (.int (i ^ j.toNat)) h)
  | _, _, _ => .stuck
def truW (h : List O) : W → Option Bool
  | .non => some false
  | .bl b => some b
  | .int i => some (i != 0)
  | .str x => if x.length ≤ sizeLine then some ((x.length : Int) != 0) else none
  | .tup ws => some (!ws.isEmpty)
  | .slst ws => some (!ws.isEmpty)
  | .sdct _ => none
  | .ref n => match h[n]? with
    | some (.lst ws) => some (!ws.isEmpty)
    | some (.dct kvs) => some (!kvs.isEmpty)
    | _ => none
def truR (h : List O) (x : W) : R Bool := match truW h x with
  | some b => .ok b h
  | none => .stuck
def subW (x y : W) (h : List O) : R W := match x, y with
  | .str z, .int i => chk (decide (z.length ≤ sizeLine)) (match atI z.cps.toList i with
    | some c => .ok (.str ⟨#[c]⟩) h
    | none => .stuck)
  | x, .int i => match seqW h x with
    | some ws => match atI ws i with
      | some w => .ok w h
      | none => .stuck
    | none => .stuck
  | _, _ => .stuck
/-- the items of xs[lo:hi] -/
def cutW {α : Type} (xs : List α) (lo hi : Option Int) : List α := (xs.drop (HT.sIx xs.length 0 lo)).take (HT.sIx xs.length xs.length hi - HT.sIx xs.length 0 lo)
def wType : W → List O → Option String
  | .non, _ => some "NoneType"
  | .bl _, _ => some "bool"
  | .int _, _ => some "int"
  | .str _, _ => some "str"
  | .tup _, _ => some "tuple"
  | .slst _, _ => some "list"
  | .sdct _, _ => some "dict"
  | .ref n, h => match h[n]? with
    | some (.lst _) => some "list"
    | some (.dct _) => some "dict"
    | _ => none
end MP
set_option maxRecDepth 100000
set_option maxHeartbeats 4000000
namespace MP
open PySem PySem.Spec PyProof.Rows L2

mutual
def W.beq : W → W → Bool
  | .non, .non => true
  | .bl a, .bl b => a == b
  | .int a, .int b => a == b
  | .str a, .str b => decide (a = b)
  | .tup a, .tup b => W.beqs a b
  | .slst a, .slst b => W.beqs a b
  | .sdct a, .sdct b => W.beqk a b
  | .ref a, .ref b => a == b
  | _, _ => false
def W.beqs : List W → List W → Bool
  | [], [] => true
  | x :: xs, y :: ys => W.beq x y && W.beqs xs ys
  | _, _ => false
def W.beqk : List (Key × W) → List (Key × W) → Bool
  | [], [] => true
  | (k, x) :: xs, (j, y) :: ys => decide (k = j) && (W.beq x y && W.beqk xs ys)
  | _, _ => false
end
mutual
theorem W.beq_refl : ∀ a : W, W.beq a a = true
  | .non => rfl
  | .bl a => by simp [W.beq]
  | .int a => by simp [W.beq]
  | .str a => by simp [W.beq]
  | .tup a => by rw [W.beq]; exact W.beqs_refl a
  | .slst a => by rw [W.beq]; exact W.beqs_refl a
  | .sdct a => by rw [W.beq]; exact W.beqk_refl a
  | .ref a => by simp [W.beq]
theorem W.beqs_refl : ∀ a : List W, W.beqs a a = true
  | [] => rfl
  | x :: xs => by rw [W.beqs, W.beq_refl x, W.beqs_refl xs]; rfl
theorem W.beqk_refl : ∀ a : List (Key × W), W.beqk a a = true
  | [] => rfl
  | (k, x) :: xs => by rw [W.beqk, W.beq_refl x, W.beqk_refl xs, decide_eq_true rfl]; rfl
end
mutual
theorem W.beq_eq : ∀ {a b : W}, W.beq a b = true → a = b
  | .non, b, h => by cases b <;> first | rfl | (simp [W.beq] at h; done)
  | .bl a, b, h => by cases b <;> first | (simp [W.beq] at h; rw [h]; done) | (simp [W.beq] at h; done)
  | .int a, b, h => by cases b <;> first | (simp [W.beq] at h; rw [h]; done) | (simp [W.beq] at h; done)
  | .str a, b, h => by cases b <;> first | (simp [W.beq] at h; rw [h]; done) | (simp [W.beq] at h; done)
  | .ref a, b, h => by cases b <;> first | (simp [W.beq] at h; rw [h]; done) | (simp [W.beq] at h; done)
  | .tup a, b, h => by
    cases b with
    | tup b => rw [W.beq] at h; rw [W.beqs_eq h]
    | _ => simp [W.beq] at h
  | .slst a, b, h => by
    cases b with
    | slst b => rw [W.beq] at h; rw [W.beqs_eq h]
    | _ => simp [W.beq] at h
  | .sdct a, b, h => by
    cases b with
    | sdct b => rw [W.beq] at h; rw [W.beqk_eq h]
    | _ => simp [W.beq] at h
theorem W.beqs_eq : ∀ {a b : List W}, W.beqs a b = true → a = b
  | [], [], _ => rfl
  | x :: xs, y :: ys, h => by
    rw [W.beqs, Bool.and_eq_true] at h
    rw [W.beq_eq h.1, W.beqs_eq h.2]
  | [], _ :: _, h => by simp [W.beqs] at h
  | _ :: _, [], h => by simp [W.beqs] at h
theorem W.beqk_eq : ∀ {a b : List (Key × W)}, W.beqk a b = true → a = b
  | [], [], _ => rfl
  | (k, x) :: xs, (j, y) :: ys, h => by
    rw [W.beqk, Bool.and_eq_true, Bool.and_eq_true] at h
    rw [of_decide_eq_true h.1, W.beq_eq h.2.1, W.beqk_eq h.2.2]
  | [], _ :: _, h => by simp [W.beqk] at h
  | _ :: _, [], h => by simp [W.beqk] at h
end

/-! ### what is walked: the items, and the lists of the heap that must stay as they are meanwhile -/
abbrev Gd := List (Nat × List W)
def gOk (h : List O) (g : Nat × List W) : Bool := match h[g.1]? with
  | some (.lst ws) => W.beqs ws g.2
  | _ => false
def gsOk (h : List O) (gs : Gd) : Bool := gs.all (gOk h)
theorem gOk_of {h : List O} {n : Nat} {ws : List W} (e : h[n]? = some (.lst ws)) : gOk h (n, ws) = true := by
  unfold gOk
  rw [e]
  exact W.beqs_refl ws
theorem gsOk_nil {h : List O} : gsOk h [] = true := rfl
theorem gsOk_one {h : List O} {n : Nat} {ws : List W} (e : h[n]? = some (.lst ws)) : gsOk h [(n, ws)] = true := by
  unfold gsOk
  rw [List.all_cons, gOk_of e]
  rfl

/-- what an expression does: its value, its truth, its items where it stands for a list (e: a new list that nobody else holds) -/
structure Sm where
  v : Lo → List O → R W
  t : Lo → List O → R Bool
  l : Lo → List O → R (List W)
  e : Bool
def chars (x : Str) : List W := x.cps.toList.map fun c => .str ⟨#[c]⟩
def seqR (h : List O) (w : W) : R (List W) := match seqW h w with
  | some ws => .ok ws h
  | none => .stuck
/-- a plain value -/
def smV (v : Lo → List O → R W) : Sm := ⟨v, fun ℓ h => (v ℓ h).bind fun w h => truR h w, fun ℓ h => (v ℓ h).bind fun w h => seqR h w, false⟩
/-- a new list -/
def smL (l : Lo → List O → R (List W)) : Sm := ⟨fun ℓ h => (l ℓ h).bind fun ws h => alloc (.lst ws) h, fun ℓ h => (l ℓ h).bind fun ws h => .ok (!ws.isEmpty) h, l, true⟩
def unBl (r : R W) : R Bool := r.bind fun w h => match w with
  | .bl b => .ok b h
  | _ => .stuck
/-- an operand: a new list's items, or a value -/
abbrev Opd := List W ⊕ W
def Sm.opd (s : Sm) (ℓ : Lo) (h : List O) : R Opd := if s.e = true then (s.l ℓ h).bind fun ws h => .ok (.inl ws) h else (s.v ℓ h).bind fun w h => .ok (.inr w) h
def datO (h : List O) : Opd → Option PyData
  | .inl ws => (ws.mapM (toD h dDepth)).map .list
  | .inr w => toD h dDepth w
def eqO (h : List O) (a b : Opd) : Option Bool := match a, b with
  | .inr x, .inr y => eqW h x y
  | a, b => match datO h a, datO h b with
    | some d, some e => if (SeqAt.shaped d && SeqAt.shaped e) = true then some (PyData.eqv d e) else none
    | _, _ => none
def inO (h : List O) (a b : Opd) : Option Bool := match a, b with
  | .inr x, .inr y => inW h x y
  | .inr x, .inl ws => if (flatW x && ws.all flatW) = true then some (ws.any fun z => eqF z x) else none
  | _, _ => none
def cmpO (op : CmpOp) (a b : Opd) (h : List O) : R W := match op with
  | .Eq => oB (eqO h a b) h
  | .NotEq => oB ((eqO h a b).map (!·)) h
  | .In => oB (inO h a b) h
  | .NotIn => oB ((inO h a b).map (!·)) h
  | op => match a, b with
    | .inr x, .inr y => cmpW op x y h
    | _, _ => .stuck

/-- a list -/
def lsqO (h : List O) : Opd → R (List W)
  | .inl ws => .ok ws h
  | .inr (.slst ws) => .ok ws h
  | .inr (.ref n) => match h[n]? with
    | some (.lst ws) => .ok ws h
    | _ => .stuck
  | _ => .stuck

/-! ### loops -/
/-- the turns of a comprehension: each gives an item or nothing -/
def lcLoop (f : W → List O → R (Option W)) (gs : Gd) : Nat → List W → List O → R (List W)
  | _, [], h => chk (gsOk h gs) (.ok [] h)
  | k, w :: ws, h => chk (gsOk h gs) ((noX (f w h)).bind fun o h1 => match o with
    | some y => chk (decide (k < sizeLine)) ((lcLoop f gs (k + 1) ws h1).bind fun r h2 => .ok (y :: r) h2)
    | none => lcLoop f gs k ws h1)
def rngN (i j c : Int) : Nat := if 0 < c then ((j - i + c - 1) / c).toNat else ((i - j - c - 1) / (-c)).toNat
def rngOk (i : Int) : Bool := decide (-(2 ^ 62) ≤ i ∧ i < 2 ^ 62)
def rngL (i : Int) (n : Nat) : List W := (List.range n).map fun k : Nat => W.int (i + k)
def zipW : List W → List W → List W
  | x :: xs, y :: ys => .tup [x, y] :: zipW xs ys
  | _, _ => []
def enumW : Nat → List W → List W
  | _, [] => []
  | k, x :: xs => .tup [.int k, x] :: enumW (k + 1) xs

def rngM (ws : List W) (h : List O) : R (List W × Gd) := match ws with
    | [.int j] => chk (rngOk j) (.ok (rngL 0 j.toNat, []) h)
    | [.int i, .int j] => chk (rngOk i && rngOk j) (.ok (rngL i (j - i).toNat, []) h)
    | _ => .stuck
/-! ### built-in functions -/
def isiB (t T : String) : Bool := t == T || (t == "bool" && T == "int")
def isiW (ts : List String) (w : W) (h : List O) : R W := match wType w h with
  | some t => .ok (.bl (ts.any fun T => isiB t T)) h
  | none => .stuck
def unInts : List W → Option (List Int)
  | [] => some []
  | .int i :: r => (unInts r).map (i :: ·)
  | _ => none
def unBls : List W → Option (List Bool)
  | [] => some []
  | .bl i :: r => (unBls r).map (i :: ·)
  | _ => none
def unStrs : List W → Option (List Str)
  | [] => some []
  | .str i :: r => (unStrs r).map (i :: ·)
  | _ => none
/-- of one list or tuple -/
def bltL (f : Str) (ws : List W) (h : List O) : R W :=
  if f = "all" then (match unBls ws with | some bs => .ok (.bl (bs.all id)) h | none => .stuck)
  else if f = "any" then (match unBls ws with | some bs => .ok (.bl (bs.any id)) h | none => .stuck)
  else if f = "sum" then (match unInts ws with | some ns => .ok (.int ns.sum) h | none => .stuck)
  else .stuck
def lenW (w : W) (h : List O) : R W := match w with
  | .str z => chk (decide (z.length ≤ sizeLine)) (.ok (.int z.length) h)
  | w => (seqR h w).bind fun ws h => .ok (.int ws.length) h
/-- of values -/
def bltV (f : Str) (ws : List W) (h : List O) : R W :=
  if f = "abs" then (match ws with | [.int i] => .ok (.int (if i < 0 then -i else i)) h | _ => .stuck)
  else if f = "max" then (match ws with | [.int i, .int j] => .ok (.int (if j > i then j else i)) h | _ => .stuck)
  else if f = "min" then (match ws with | [.int i, .int j] => .ok (.int (if j < i then j else i)) h | _ => .stuck)
  else .stuck
def reprO (h : List O) (a : Opd) : R W := match datO h a with
  | some d => chk (d.showable && decide (d.shown.length ≤ sizeLine)) (.ok (.str d.shown) h)
  | none => .stuck
def joinR (a : Str) (ws : List W) (h : List O) : R W := match unStrs ws with
  | some ys => chk (decide ((ys.map (·.length)).sum + ys.length * a.length ≤ 16777216)) (.ok (.str (Txt.join a ys)) h)
  | none => .stuck
def appR (x y : W) (h : List O) : R W := match x with
  | .ref n => match h[n]? with
    | some (.lst ws) => chk (decide (ws.length < sizeLine)) (.ok .non (h.set n (.lst (ws ++ [y]))))
    | _ => .stuck
  | _ => .stuck
/-- is it a list that may be written -/
def isLst (h : List O) : W → Bool
  | .ref n => match h[n]? with
    | some (.lst _) => true
    | _ => false
  | _ => false
/-- methods of built-in types, with values -/
def bmV (m : Str) (x : W) (ws : List W) (h : List O) : R W :=
  if m = "append" then (match ws with | [y] => appR x y h | _ => .stuck)
  else .stuck

/-- the key that a value is -/
def keyW : W → Option Key
  | .int i => some (.inl i)
  | .str x => some (.inr x)
  | _ => none
def putW (kvs : List (Key × W)) (k : Key) (v : W) : List (Key × W) :=
  if (kvs.any fun kv => decide (kv.1 = k)) = true then kvs.map (fun kv => if kv.1 = k then (kv.1, v) else kv) else kvs ++ [(k, v)]
def mergeW (kvs more : List (Key × W)) : List (Key × W) := more.foldl (fun acc kv => putW acc kv.1 kv.2) kvs
/-! ### targets -/
def setSub (x i w : W) (h : List O) : R Unit := match x, i with
  | .ref n, .int k => match h[n]? with
    | some (.lst ws) => match ixN ws.length k with
      | some j => .ok () (h.set n (.lst (ws.set j w)))
      | none => .stuck
    | _ => .stuck
  | _, _ => .stuck

/-- a text's signs -/
def chS (z : Str) : List Str := z.cps.toList.map fun c => ⟨#[c]⟩
def leS (a b : Str) : Bool := decide (¬ b.cps.toList < a.cps.toList)
def srtL (xs : List Str) : List Str := xs.mergeSort leS
/-- sorted of a text or of a list of texts -/
def srtO (h : List O) (x : Opd) : R (List W) := match x with
  | .inr (.str z) => chk (decide (z.cps.size < 64)) (.ok ((srtL (chS z)).map .str) h)
  | x => (lsqO h x).bind fun ws h => match unStrs ws with
    | some ys => chk (decide (ys.length < 64)) (.ok ((srtL ys).map .str) h)
    | none => .stuck
/-- what is walked: a list, a tuple, a text -/
def seqO (st : Bool) (h : List O) : Opd → R (List W × Gd)
  | .inl ws => .ok (ws, []) h
  | .inr (.tup ws) => .ok (ws, []) h
  | .inr (.slst ws) => .ok (ws, []) h
  | .inr (.str x) => if st = true then .ok (chars x, []) h else .stuck
  | .inr (.ref n) => match h[n]? with
    | some (.lst ws) => .ok (ws, [(n, ws)]) h
    | _ => .stuck
  | _ => .stuck
/-- a text's slice with a step -/
def stpS (z : Str) (lo hi : Option Int) (k : Int) : Str := ⟨((Builtin.Str.strSliceIndices lo hi k z.length).filterMap (z.cps[·]?)).toArray⟩
/-- how many unlike ones there are behind some others -/
def dctFrom (pre : List Str) : List Str → Nat
  | [] => 0
  | x :: r => (if (pre.any (· == x)) = true then 0 else 1) + dctFrom (pre ++ [x]) r
def p1R (o : P1) (x : Opd) (h : List O) : R W := match o, x with
  | .sst lo hi k, .inr (.str z) => chk (decide (z.length ≤ sizeLine ∧ k ≠ 0 ∧ k ≠ 1)) (.ok (.str (stpS z lo hi k)) h)
  | .lset, .inr (.str z) => chk (decide (z.cps.size < 1000)) (.ok (.int (dctFrom [] (chS z))) h)
  | _, _ => .stuck
def tupO : Opd → Bool
  | .inr (.tup _) => true
  | _ => false

/-! ### evaluation -/
/-- the parameters' values, in their order -/
def arr (ws : List W) (ar : List Ar) : List W := ar.map fun
  | .at i => ws.getD i .non
  | .dv w => w
structure Cn where
  call : Str → List W → List O → R W
  gl : Str → Option W
  fuel : Nat
  /-- calls one level lower -/
  ini : Str → List W → List O → R W := fun _ _ _ => .stuck
  /-- how a def with n values and keywords binds -/
  frm : Str → Nat → List Str → Option (List Ar) := fun _ _ _ => none
  /-- defs that are called with keywords -/
  kn : Str → Bool := fun _ => false
  /-- attributes of instances that no class has -/
  att : Str → Str → Bool := fun _ _ => false
  /-- methods: their full names -/
  met : Str → Str → Option Str := fun _ _ => none
  /-- properties: their getters -/
  prp : Str → Str → Option Str := fun _ _ => none
  /-- is an instance of the first class one of the second -/
  sub : Str → Str → Option Bool := fun _ _ => none
  /-- classes whose instances are looked at by isinstance -/
  isn : Str → Bool := fun _ => false
  /-- classes that isinstance is asked of -/
  isk : Str → Bool := fun _ => false
  /-- classes that are made: their __init__ -/
  inn : Str → Option Str := fun _ => none
/-- a call with keywords -/
def callA (C : Str → List W → List O → R W) (fm : Str → Nat → List Str → Option (List Ar)) (f : Str) (n : Nat) (ks : List Str) (ws : List W) (h : List O) : R W := match fm f n ks with
  | some ar => chk (decide (ws.length = n + ks.length)) (C f (arr ws ar) h)
  | none => .stuck
/-- an instance: its class and its attributes -/
def insW (h : List O) : W → Option (Str × List (Str × W))
  | .ref n => match h[n]? with
    | some (.ins c fs) => some (c, fs)
    | _ => none
  | _ => none
/-- x.f -/
def attW (C : Cn) (x : W) (f : Str) (h : List O) : R W := match insW h x with
  | some (c, fs) => if C.att c f = true then (match fs.lookup f with
      | some w => .ok w h
      | none => .stuck) else (match C.prp c f with
      | some g => noX (callA C.ini C.frm g 1 [] [x] h)
      | none => .stuck)
  | none => .stuck
/-- the method that x.m is -/
def metW (C : Cn) (x : W) (m : Str) (h : List O) : Option Str := match insW h x with
  | some (c, fs) => if (fs.lookup m).isNone = true then C.met c m else none
  | none => none
/-- c(..) -/
def newW (C : Cn) (c g : Str) (n : Nat) (ks : List Str) (ws : List W) (h : List O) : R W := (callA C.ini C.frm g n ks (.ref h.length :: ws) (h ++ [O.ins c []])).bind fun w h' => match w with
    | .non => .ok (.ref h.length) h'
    | _ => .stuck
/-- a dict's pairs -/
def dctW (h : List O) : W → Option (List (Key × W))
  | .sdct kvs => some kvs
  | .ref n => match h[n]? with
    | some (.dct kvs) => some kvs
    | _ => none
  | _ => none
def valW (kvs : List (Key × W)) (k : Key) : Option W := (kvs.find? fun kv => decide (kv.1 = k)).map (·.2)
/-- what a dict has at a key; none: no dict, or no key -/
def dgetW (h : List O) (x y : W) : Option (Option W) := (dctW h x).bind fun kvs => (keyW y).map fun k => valW kvs k
def intI (w : W) (h : List O) : R W := match w with
  | .int i => .ok (.int i) h
  | .bl b => .ok (.int (if b then 1 else 0)) h
  | _ => .stuck
/-- is it of a class of the text -/
def iscW (C : Cn) (w : W) (c : Str) (h : List O) : R W := match insW h w with
  | some (c', _) => oB (C.sub c' c) h
  | none => (match wType w h with
    | some _ => .ok (.bl false) h
    | none => .stuck)
/-- isinstance of built-in types, where an instance may stand -/
def isxW (C : Cn) (ts : List String) (w : W) (h : List O) : R W := match insW h w with
  | some (c, _) => chk (C.isn c) (.ok (.bl false) h)
  | none => isiW ts w h
/-- a special of an instance, one level lower, no exception -/
def spcW (C : Cn) (x : W) (m : Str) (ws : List W) (h : List O) : R W := match metW C x m h with
  | some g => noX (callA C.ini C.frm g (ws.length + 1) [] (x :: ws) h)
  | none => .stuck
def lenI (w : W) (h : List O) : R W := match w with
  | .int n => chk (decide (0 ≤ n ∧ n < 2 ^ 62)) (.ok (.int n) h)
  | _ => .stuck
def notI (neg : Bool) (w : W) (h : List O) : R W := match w with
  | .bl b => .ok (.bl (b != neg)) h
  | _ => .stuck
/-- x.f = w -/
def putFW (f : Str) (w : W) : List (Str × W) → List (Str × W)
  | [] => [(f, w)]
  | (g, v) :: r => if g = f then (g, w) :: r else (g, v) :: putFW f w r
def satW (C : Cn) (x : W) (f : Str) (w : W) (h : List O) : R Unit := match x with
  | .ref n => match h[n]? with
    | some (.ins c fs) => chk (C.att c f && decide (fs.length < 1000)) (.ok () (h.set n (.ins c (putFW f w fs))))
    | _ => .stuck
  | _ => .stuck
def wipeL (ℓ : Lo) : List Nat → Lo
  | [] => ℓ
  | v :: vs => (wipeL ℓ vs).set v none
abbrev Tg := W → Lo → List O → R Lo
abbrev Tgs := List W → Lo → List O → R Lo
def ofO {α : Type} (o : Option α) (h : List O) : R α := match o with
  | some a => .ok a h
  | none => .stuck
def getL (ℓ : Lo) (i : Nat) : Option W := match ℓ[i]? with
  | some (some w) => some w
  | _ => none
abbrev Po := Lo → List O → R (Option Int)
mutual
def ev (C : Cn) : Me → Sm
  | .var i => smV fun ℓ h => ofO (getL ℓ i) h
  | .glob x => smV fun _ h => ofO (C.gl x) h
  | .non => smV fun _ h => .ok .non h
  | .bl b => smV fun _ h => .ok (.bl b) h
  | .int i => smV fun _ h => .ok (.int i) h
  | .str x => smV fun _ h => .ok (.str x) h
  | .tup es => smV fun ℓ h => (evs C es ℓ h).bind fun ws h => chk (decide (ws.length ≤ sizeLine)) (.ok (.tup ws) h)
  | .lst es => smL fun ℓ h => (evs C es ℓ h).bind fun ws h => chk (decide (ws.length ≤ sizeLine)) (.ok ws h)
  | .dct kvs => smV fun ℓ h => (evd C kvs ℓ h).bind fun kvs h => chk (decide (kvs.length ≤ 15)) (alloc (.dct (mergeW [] kvs)) h)
  | .lrep a n => smL fun ℓ h => ((ev C a).l ℓ h).bind fun ws h => ((ev C n).v ℓ h).bind fun y h => match y with
    | .int k => chk (decide (-(2 ^ 63) ≤ k ∧ k < 2 ^ 63) && decide (ws.length * k.toNat ≤ sizeLine)) (.ok (List.replicate k.toNat ws).flatten h)
    | _ => .stuck
  | .lcat a b => smL fun ℓ h => ((ev C a).opd ℓ h).bind fun x h => ((ev C b).opd ℓ h).bind fun y h => (lsqO h x).bind fun xs h => (lsqO h y).bind fun ys h => chk (decide (xs.length + ys.length ≤ sizeLine)) (.ok (xs ++ ys) h)
  | .lcut a lo hi => smL fun ℓ h => ((ev C a).opd ℓ h).bind fun x h => (evo C lo ℓ h).bind fun l h => (evo C hi ℓ h).bind fun u h => (lsqO h x).bind fun ws h => .ok (cutW ws l u) h
  | .bin op a b => smV fun ℓ h => ((ev C a).v ℓ h).bind fun x h => ((ev C b).v ℓ h).bind fun y h => binW op x y h
  | .neg a => smV fun ℓ h => ((ev C a).v ℓ h).bind fun x h => match x with | .int i => .ok (.int (-i)) h | _ => .stuck
  | .not a => { smV (fun ℓ h => ((ev C a).v ℓ h).bind fun w h => (truR h w).bind fun b h => .ok (.bl (!b)) h) with t := fun ℓ h => ((ev C a).t ℓ h).bind fun b h => .ok (!b) h }
  | .boolop op es => evb C op es
  | .cmp op a b => let v := fun ℓ h => ((ev C a).opd ℓ h).bind fun x h => ((ev C b).opd ℓ h).bind fun y h => cmpO op x y h
    { smV v with t := fun ℓ h => unBl (v ℓ h) }
  | .chain op1 op2 a b c => let v := fun ℓ h => ((ev C a).v ℓ h).bind fun x h => ((ev C b).v ℓ h).bind fun y h => (unBl (cmpW op1 x y h)).bind fun k h =>
      if k = true then ((ev C c).v ℓ h).bind fun z h => cmpW op2 y z h else .ok (.bl false) h
    { smV v with t := fun ℓ h => unBl (v ℓ h) }
  | .ife c a b => { smV (fun ℓ h => ((ev C c).t ℓ h).bind fun k h => if k = true then (ev C a).v ℓ h else (ev C b).v ℓ h) with
      t := fun ℓ h => ((ev C c).t ℓ h).bind fun k h => if k = true then (ev C a).t ℓ h else (ev C b).t ℓ h }
  | .call f es => smV fun ℓ h => (evs C es ℓ h).bind fun ws h => C.call f ws h
  | .isi a ts => smV fun ℓ h => ((ev C a).v ℓ h).bind fun w h => isiW ts w h
  | .blt f es => evk C f es
  | .sub a i => smV fun ℓ h => ((ev C a).opd ℓ h).bind fun x h => ((ev C i).v ℓ h).bind fun y h => match x with
    | .inl ws => match y with
      | .int i => ofO (atI ws i) h
      | _ => .stuck
    | .inr x => subW x y h
  | .slice a lo hi => smV fun ℓ h => ((ev C a).v ℓ h).bind fun x h => (evo C lo ℓ h).bind fun l h => (evo C hi ℓ h).bind fun u h => match x with
    | .str z => chk (decide (z.length ≤ sizeLine)) (.ok (.str (cutS z l u)) h)
    | .tup ws => .ok (.tup (cutW ws l u)) h
    | x => (lsqO h (.inr x)).bind fun ws h => .ok (.slst (cutW ws l u)) h
  | .frz a => smV fun ℓ h => ((ev C a).l ℓ h).bind fun ws h => .ok (.slst ws) h
  | .frd kvs => smV fun ℓ h => (evd C kvs ℓ h).bind fun kvs h => chk (decide (kvs.length ≤ 15)) (.ok (.sdct (mergeW [] kvs)) h)
  | .attr a f => smV fun ℓ h => ((ev C a).v ℓ h).bind fun x h => attW C x f h
  | .dg1 d k => smV fun ℓ h => ((ev C d).v ℓ h).bind fun x h => chk (dctW h x).isSome (((ev C k).v ℓ h).bind fun y h => (ofO (dgetW h x y) h).bind fun o h => .ok (o.getD .non) h)
  | .dg2 d k e => smV fun ℓ h => ((ev C d).v ℓ h).bind fun x h => chk (dctW h x).isSome (((ev C k).v ℓ h).bind fun y h => ((ev C e).v ℓ h).bind fun z h => (ofO (dgetW h x y) h).bind fun o h => .ok (o.getD z) h)
  | .dix d k => smV fun ℓ h => ((ev C d).v ℓ h).bind fun x h => ((ev C k).v ℓ h).bind fun y h => (ofO (dgetW h x y) h).bind fun o h => ofO o h
  | .int1 a => smV fun ℓ h => ((ev C a).v ℓ h).bind fun w h => intI w h
  | .rev a => smL fun ℓ h => ((ev C a).opd ℓ h).bind fun x h => (lsqO h x).bind fun ws h => .ok ws.reverse h
  | .srt a => smL fun ℓ h => ((ev C a).opd ℓ h).bind fun x h => srtO h x
  | .isc a c => smV fun ℓ h => chk (C.isk c) (((ev C a).v ℓ h).bind fun w h => iscW C w c h)
  | .isx a ts => smV fun ℓ h => ((ev C a).v ℓ h).bind fun w h => isxW C ts w h
  | .olen a => smV fun ℓ h => ((ev C a).v ℓ h).bind fun x h => (spcW C x "__len__" [] h).bind fun w h => lenI w h
  | .oin neg a b => let v := fun ℓ h => ((ev C a).v ℓ h).bind fun x h => ((ev C b).v ℓ h).bind fun y h => (spcW C y "__contains__" [x] h).bind fun w h => notI neg w h
    { smV v with t := fun ℓ h => unBl (v ℓ h) }
  | .callf f es ks kes => smV fun ℓ h => chk (C.kn f) ((evs C es ℓ h).bind fun ws h => (evs C kes ℓ h).bind fun zs h => callA C.call C.frm f ws.length ks (ws ++ zs) h)
  | .meth a m es ks kes => smV fun ℓ h => ((ev C a).v ℓ h).bind fun x h => (ofO (metW C x m h) h).bind fun g h => (evs C es ℓ h).bind fun ws h => (evs C kes ℓ h).bind fun zs h => callA C.call C.frm g (ws.length + 1) ks (x :: (ws ++ zs)) h
  | .new c es ks kes => smV fun ℓ h => (ofO (C.inn c) h).bind fun g h => (evs C es ℓ h).bind fun ws h => (evs C kes ℓ h).bind fun zs h => newW C c g (ws.length + 1) ks (ws ++ zs) h
  | .bm m a es => evm C m (ev C a) es
  | .p1 o a => smV fun ℓ h => ((ev C a).opd ℓ h).bind fun x h => p1R o x h
  | .lcomp elt tg src ifs own => smL fun ℓ h => (evi C src ℓ h).bind fun r h => lcLoop (fun w h => (evt C tg w (wipeL ℓ own) h).bind fun ℓ2 h => (evf C ifs ℓ2 h).bind fun k h =>
      if k = true then ((ev C elt).v ℓ2 h).bind fun y h => .ok (some y) h else .ok none h) r.2 0 r.1 h
def evs (C : Cn) : Mes → Lo → List O → R (List W)
  | .nil => fun _ h => .ok [] h
  | .cons e es => fun ℓ h => ((ev C e).v ℓ h).bind fun w h => (evs C es ℓ h).bind fun ws h => .ok (w :: ws) h
/-- the pairs of a display -/
def evd (C : Cn) : Mks → Lo → List O → R (List (Key × W))
  | .nil => fun _ h => .ok [] h
  | .cons k v r => fun ℓ h => ((ev C k).v ℓ h).bind fun x h => ((ev C v).v ℓ h).bind fun y h => match keyW x with
    | some k => (evd C r ℓ h).bind fun kvs h => .ok ((k, y) :: kvs) h
    | none => .stuck
/-- and, or -/
def evb (C : Cn) (op : BoolOp) : Mes → Sm
  | .nil => smV fun _ _ => .stuck
  | .cons e .nil => ev C e
  | .cons e (.cons e2 es) => { smV (fun ℓ h => ((ev C e).v ℓ h).bind fun w h => (truR h w).bind fun k h => match op with
      | .And => if k = true then (evb C op (.cons e2 es)).v ℓ h else .ok w h
      | .Or => if k = true then .ok w h else (evb C op (.cons e2 es)).v ℓ h) with
    t := fun ℓ h => ((ev C e).t ℓ h).bind fun k h => match op with
      | .And => if k = true then (evb C op (.cons e2 es)).t ℓ h else .ok false h
      | .Or => if k = true then .ok true h else (evb C op (.cons e2 es)).t ℓ h }
/-- a built-in function -/
def evk (C : Cn) (f : Str) : Mes → Sm
  | .cons e .nil =>
    if f = "len" then smV fun ℓ h => ((ev C e).opd ℓ h).bind fun x h => match x with
      | .inl ws => .ok (.int ws.length) h
      | .inr w => lenW w h
    else if f = "repr" then smV fun ℓ h => ((ev C e).opd ℓ h).bind fun x h => reprO h x
    else if f = "list" then smL fun ℓ h => (ev C e).l ℓ h
    else if f = "abs" then smV fun ℓ h => ((ev C e).v ℓ h).bind fun w h => bltV f [w] h
    else if f = "tuple" then smV fun ℓ h => ((ev C e).l ℓ h).bind fun ws h => .ok (.tup ws) h
    else smV fun ℓ h => ((ev C e).opd ℓ h).bind fun x h => (lsqO h x).bind fun ws h => bltL f ws h
  | .nil => smV fun ℓ h => bltV f [] h
  | .cons a (.cons b es) => smV fun ℓ h => ((ev C a).v ℓ h).bind fun x h => ((ev C b).v ℓ h).bind fun y h => (evs C es ℓ h).bind fun ws h => bltV f (x :: y :: ws) h
/-- a method of a built-in type -/
def evm (C : Cn) (m : Str) (s : Sm) : Mes → Sm
  | .cons e .nil =>
    if m = "join" then smV fun ℓ h => (s.v ℓ h).bind fun x h => match x with
      | .str a => ((ev C e).l ℓ h).bind fun ws h => joinR a ws h
      | _ => .stuck
    else smV fun ℓ h => (s.v ℓ h).bind fun x h => chk (isLst h x) (((ev C e).v ℓ h).bind fun w h => bmV m x [w] h)
  | .nil => smV fun ℓ h => (s.v ℓ h).bind fun x h => bmV m x [] h
  | .cons a (.cons b es) => smV fun ℓ h => (s.v ℓ h).bind fun x h => ((ev C a).v ℓ h).bind fun y h => ((ev C b).v ℓ h).bind fun z h => (evs C es ℓ h).bind fun ws h => bmV m x (y :: z :: ws) h
def evo (C : Cn) : Mo → Lo → List O → R (Option Int)
  | .none => fun _ h => .ok none h
  | .some e => fun ℓ h => ((ev C e).v ℓ h).bind fun w h => match w with
    | .int i => .ok (some i) h
    | _ => .stuck
def evf (C : Cn) : Mo → Lo → List O → R Bool
  | .none => fun _ h => .ok true h
  | .some e => fun ℓ h => (ev C e).t ℓ h
def evt (C : Cn) : Mt → Tg
  | .name i => fun w ℓ h => .ok (ℓ.set i (some w)) h
  | .tup ts => fun w ℓ h => match seqW h w with
    | some ws => evts C ts ws ℓ h
    | none => .stuck
  | .sub a i => fun w ℓ h => ((ev C a).v ℓ h).bind fun x h => ((ev C i).v ℓ h).bind fun y h => (setSub x y w h).bind fun _ h => .ok ℓ h
def evts (C : Cn) : Mts → Tgs
  | .nil => fun ws ℓ h => match ws with
    | [] => .ok ℓ h
    | _ => .stuck
  | .cons t ts => fun ws ℓ h => match ws with
    | w :: ws => (noX (evt C t w ℓ h)).bind fun ℓ h => evts C ts ws ℓ h
    | [] => .stuck
def evi (C : Cn) : Mi → Lo → List O → R (List W × Gd)
  | .val e => fun ℓ h => ((ev C e).opd ℓ h).bind fun x h => seqO true h x
  | .range es => fun ℓ h => (evs C es ℓ h).bind fun ws h => rngM ws h
  | .zip a b => fun ℓ h => ((ev C a).opd ℓ h).bind fun x h => ((ev C b).opd ℓ h).bind fun y h => chk (tupO x == tupO y) ((seqO false h x).bind fun xs h => (seqO false h y).bind fun ys h => .ok (zipW xs.1 ys.1, xs.2 ++ ys.2) h)
  | .enum a => fun ℓ h => ((ev C a).opd ℓ h).bind fun x h => chk (!tupO x) ((seqO false h x).bind fun xs h => .ok (enumW 0 xs.1, xs.2) h)
end
end MP
set_option maxRecDepth 100000
set_option maxHeartbeats 4000000
namespace MP
open PySem PySem.Spec PyProof.Rows L2

/-! ### the program at hand -/
structure Pg where
  P : Program
  w : World
  K : PySem.W.Frag
  mg : Str → Option Value
  base : Heap
  /-- where the classes stand -/
  cls : Str → Option Addr
  /-- where the defs stand, by their full names -/
  adr : Str → Option Addr
  /-- the module's own objects, numbered first in the small heap -/
  i0 : List Addr

/-- a list that is never written: of the module's own text, or known to the object -/
def StL (K : PySem.W.Frag) (H : Hp) (a : Addr) (xs : List V) : Prop := (∃ o, H a = some (.frz o (.lst xs))) ∨
  ∃ (o : Obj) (its : Array Value) (n : Nat), K.lookup a = some o ∧ o = { cls := .type "list", data := .seq its n } ∧ its.size ≤ sizeLine ∧ Vals xs its.toList
theorem StL.sql {K : PySem.W.Frag} {H : Hp} {a : Addr} {xs : List V} (h : StL K H a xs) : SqL K H a xs := by
  rcases h with ⟨o, h⟩ | ⟨o, its, n, h1, rfl, h2, h3⟩
  · exact .inl (.inr ⟨o, h⟩)
  · exact .inr ⟨_, its, n, h1, rfl, rfl, rfl, h2, h3⟩
/-- a list that may stand in a sum -/
def CatL (K : PySem.W.Frag) (H : Hp) (a : Addr) (xs : List V) : Prop := H a = some (.lst xs) ∨ StL K H a xs
/-! ### values and their images -/
mutual
inductive VR (G : Pg) (H : Hp) (ι : List Addr) : W → V → Prop
  | non : VR G H ι .non .non
  | bl (b : Bool) : VR G H ι (.bl b) (.bl b)
  | int (i : Int) : VR G H ι (.int i) (.int i)
  | str (x : Str) : VR G H ι (.str x) (.str x)
  | tup {a : Addr} {vs : List V} {ws : List W} : SqT G.K H a vs → VRs G H ι ws vs → VR G H ι (.tup ws) (.ref a)
  | slst {a : Addr} {vs : List V} {ws : List W} : StL G.K H a vs → VRs G H ι ws vs → VR G H ι (.slst ws) (.ref a)
  | sdct {a : Addr} {o : Obj} {m : List (Key × V)} {kvs : List (Key × W)} : H a = some (.frz o (.dK m)) → VKs G H ι kvs m → VR G H ι (.sdct kvs) (.ref a)
  | ref {n : Nat} {a : Addr} : ι[n]? = some a → VR G H ι (.ref n) (.ref a)
inductive VRs (G : Pg) (H : Hp) (ι : List Addr) : List W → List V → Prop
  | nil : VRs G H ι [] []
  | cons {w : W} {v : V} {ws : List W} {vs : List V} : VR G H ι w v → VRs G H ι ws vs → VRs G H ι (w :: ws) (v :: vs)
inductive VKs (G : Pg) (H : Hp) (ι : List Addr) : List (Key × W) → List (Key × V) → Prop
  | nil : VKs G H ι [] []
  | cons {k : Key} {w : W} {v : V} {ws : List (Key × W)} {vs : List (Key × V)} : VR G H ι w v → VKs G H ι ws vs → VKs G H ι ((k, w) :: ws) ((k, v) :: vs)
end
inductive FR {κ : Type} (G : Pg) (H : Hp) (ι : List Addr) : List (κ × W) → List (κ × V) → Prop
  | nil : FR G H ι [] []
  | cons {x : κ} {w : W} {v : V} {ws : List (κ × W)} {vs : List (κ × V)} : VR G H ι w v → FR G H ι ws vs → FR G H ι ((x, w) :: ws) ((x, v) :: vs)

/-- what is never written -/
def Fixed : HO → Prop
  | .tup _ => True
  | .frz _ _ => True
  | .ext _ => True
  | _ => False
/-- where the table of modules is held: a dict, known as such -/
def SmT (K : PySem.W.Frag) (H : Hp) : Prop := (∃ o u es n, H sysModules = some (.frz o u) ∧ o.data = .dict es n) ∨ ∃ o es n, K.lookup sysModules = some o ∧ o.data = .dict es n
def OR (G : Pg) (H : Hp) (ι : List Addr) (a : Addr) : O → Prop
  | .lst ws => ∃ vs, H a = some (.lst vs) ∧ VRs G H ι ws vs
  | .dct kvs => ∃ m, H a = some (.dK m) ∧ FR G H ι kvs m
  | .ins c fs => ∃ C dx vs, G.cls c = some C ∧ H a = some (.ins C dx vs) ∧ FR G H ι fs vs
structure Rel (G : Pg) (h : List O) (ι : List Addr) (H : Hp) : Prop where
  len : ι.length = h.length
  obj : ∀ (n : Nat) (o : O) (a : Addr), h[n]? = some o → ι[n]? = some a → OR G H ι a o
  inj : ∀ (m n : Nat) (a : Addr), ι[m]? = some a → ι[n]? = some a → m = n
  pre : ∃ r, ι = G.i0 ++ r
  sm : SmT G.K H
/-- from one state to a later one -/
structure Step (ι : List Addr) (H : Hp) (ι' : List Addr) (H' : Hp) : Prop where
  ext : ∃ r, ι' = ι ++ r ∧ ∀ a ∈ r, H a = none
  keep : ∀ a o, H a = some o → a ∉ ι → H' a = some o
  there : ∀ a, H a ≠ none → H' a ≠ none
  fix : ∀ a u, H a = some u → Fixed u → H' a = some u
section
variable {G : Pg} {ι ι' ι1 ι2 : List Addr} {H H' H1 H2 : Hp} {h : List O}
theorem Step.refl : Step ι H ι H := ⟨⟨[], by simp, fun _ h => nomatch h⟩, fun _ _ e _ => e, fun _ e => e, fun _ _ e _ => e⟩
theorem Step.trans (s : Step ι H ι1 H1) (t : Step ι1 H1 ι2 H2) : Step ι H ι2 H2 := by
  obtain ⟨r, er, hr⟩ := s.ext
  obtain ⟨q, eq, hq⟩ := t.ext
  refine ⟨⟨r ++ q, by rw [eq, er, List.append_assoc], fun a ha => ?_⟩, fun a o e na => ?_, fun a e => t.there a (s.there a e), fun a u e f => t.fix a u (s.fix a u e f) f⟩
  · rcases List.mem_append.mp ha with ha | ha
    · exact hr a ha
    · cases e : H a with
      | none => rfl
      | some o => exact absurd (hq a ha) (s.there a (by rw [e]; exact fun z => nomatch z))
  · refine t.keep a o (s.keep a o e na) fun hm => ?_
    rw [er] at hm
    rcases List.mem_append.mp hm with hm | hm
    · exact na hm
    · rw [hr a hm] at e; cases e
theorem Step.get (s : Step ι H ι' H') {n : Nat} {a : Addr} (e : ι[n]? = some a) : ι'[n]? = some a := by
  obtain ⟨r, er, _⟩ := s.ext
  rw [er, List.getElem?_append_left (List.getElem?_eq_some_iff.mp e).1]
  exact e
theorem Step.tups (s : Step ι H ι' H') : ∀ a xs, Rd H a (.tup xs) → Rd H' a (.tup xs) := fun a xs e => by
  rcases e with e | ⟨o, e⟩
  · exact .inl (s.fix a _ e trivial)
  · exact .inr ⟨o, s.fix a _ e trivial⟩
theorem Step.frzs (s : Step ι H ι' H') : ∀ a o u, H a = some (.frz o u) → H' a = some (.frz o u) := fun a o u e => s.fix a _ e trivial
theorem Step.sqT (s : Step ι H ι' H') {K : PySem.W.Frag} {a : Addr} {xs : List V} (h : SqT K H a xs) : SqT K H' a xs := by
  rcases h with h | h
  · exact .inl (s.tups a xs h)
  · exact .inr h
theorem Step.stL (s : Step ι H ι' H') {K : PySem.W.Frag} {a : Addr} {xs : List V} (h : StL K H a xs) : StL K H' a xs := by
  rcases h with ⟨o, h⟩ | h
  · exact .inl ⟨o, s.frzs a o _ h⟩
  · exact .inr h
/-- what images lean on stays -/
structure Mon (ι : List Addr) (H : Hp) (ι' : List Addr) (H' : Hp) : Prop where
  get : ∀ (n : Nat) (a : Addr), ι[n]? = some a → ι'[n]? = some a
  fix : ∀ a u, H a = some u → Fixed u → H' a = some u
theorem Mon.tups (s : Mon ι H ι' H') : ∀ a xs, Rd H a (.tup xs) → Rd H' a (.tup xs) := fun a xs e => by
  rcases e with e | ⟨o, e⟩
  · exact .inl (s.fix a _ e trivial)
  · exact .inr ⟨o, s.fix a _ e trivial⟩
theorem Mon.frzs (s : Mon ι H ι' H') : ∀ a o u, H a = some (.frz o u) → H' a = some (.frz o u) := fun a o u e => s.fix a _ e trivial
theorem SmT.fix {K : PySem.W.Frag} {H H' : Hp} (h : SmT K H) (f : ∀ a u, H a = some u → Fixed u → H' a = some u) : SmT K H' := by
  rcases h with ⟨o, u, es, n, e, q⟩ | h
  · exact .inl ⟨o, u, es, n, f _ _ e trivial, q⟩
  · exact .inr h
theorem Step.mon (s : Step ι H ι' H') : Mon ι H ι' H' := ⟨fun _ _ e => s.get e, s.fix⟩
mutual
theorem VR.mon (s : Mon ι H ι' H') : ∀ {w : W} {v : V}, VR G H ι w v → VR G H' ι' w v
  | _, _, .non => .non
  | _, _, .bl b => .bl b
  | _, _, .int i => .int i
  | _, _, .str x => .str x
  | _, _, .tup h r => .tup (by
      rcases h with h | h
      · exact .inl (s.tups _ _ h)
      · exact .inr h) (VRs.mon s r)
  | _, _, .slst h r => .slst (by
      rcases h with ⟨o, h⟩ | h
      · exact .inl ⟨o, s.frzs _ o _ h⟩
      · exact .inr h) (VRs.mon s r)
  | _, _, .sdct h r => .sdct (s.frzs _ _ _ h) (VKs.mon s r)
  | _, _, .ref e => .ref (s.get _ _ e)
theorem VRs.mon (s : Mon ι H ι' H') : ∀ {ws : List W} {vs : List V}, VRs G H ι ws vs → VRs G H' ι' ws vs
  | _, _, .nil => .nil
  | _, _, .cons r t => .cons (VR.mon s r) (VRs.mon s t)
theorem VKs.mon (s : Mon ι H ι' H') : ∀ {ws : List (Key × W)} {vs : List (Key × V)}, VKs G H ι ws vs → VKs G H' ι' ws vs
  | _, _, .nil => .nil
  | _, _, .cons r t => .cons (VR.mon s r) (VKs.mon s t)
end
mutual
theorem VR.mono (s : Step ι H ι' H') : ∀ {w : W} {v : V}, VR G H ι w v → VR G H' ι' w v
  | _, _, .non => .non
  | _, _, .bl b => .bl b
  | _, _, .int i => .int i
  | _, _, .str x => .str x
  | _, _, .tup h r => .tup (s.sqT h) (VRs.mono s r)
  | _, _, .slst h r => .slst (s.stL h) (VRs.mono s r)
  | _, _, .sdct h r => .sdct (s.frzs _ _ _ h) (VKs.mono s r)
  | _, _, .ref e => .ref (s.get e)
theorem VRs.mono (s : Step ι H ι' H') : ∀ {ws : List W} {vs : List V}, VRs G H ι ws vs → VRs G H' ι' ws vs
  | _, _, .nil => .nil
  | _, _, .cons r t => .cons (VR.mono s r) (VRs.mono s t)
theorem VKs.mono (s : Step ι H ι' H') : ∀ {ws : List (Key × W)} {vs : List (Key × V)}, VKs G H ι ws vs → VKs G H' ι' ws vs
  | _, _, .nil => .nil
  | _, _, .cons r t => .cons (VR.mono s r) (VKs.mono s t)
end
theorem FR.mono {κ : Type} (s : Step ι H ι' H') : ∀ {ws : List (κ × W)} {vs : List (κ × V)}, FR G H ι ws vs → FR G H' ι' ws vs
  | _, _, .nil => .nil
  | _, _, .cons r t => .cons (r.mono s) (FR.mono s t)
theorem VKs.fr : ∀ {ws : List (Key × W)} {vs : List (Key × V)}, VKs G H ι ws vs → FR G H ι ws vs
  | _, _, .nil => .nil
  | _, _, .cons r t => .cons r (VKs.fr t)
theorem FR.vk : ∀ {ws : List (Key × W)} {vs : List (Key × V)}, FR G H ι ws vs → VKs G H ι ws vs
  | _, _, .nil => .nil
  | _, _, .cons r t => .cons r (FR.vk t)
theorem VRs.length : ∀ {ws : List W} {vs : List V}, VRs G H ι ws vs → ws.length = vs.length
  | _, _, .nil => rfl
  | _, _, .cons _ t => by rw [List.length_cons, List.length_cons, VRs.length t]
theorem VRs.append : ∀ {ws ws' : List W} {vs vs' : List V}, VRs G H ι ws vs → VRs G H ι ws' vs' → VRs G H ι (ws ++ ws') (vs ++ vs')
  | _, _, _, _, .nil, q => q
  | _, _, _, _, .cons r t, q => .cons r (VRs.append t q)
theorem VRs.get : ∀ {ws : List W} {vs : List V} {i : Nat} {w : W}, VRs G H ι ws vs → ws[i]? = some w → ∃ v, vs[i]? = some v ∧ VR G H ι w v
  | _, _, _, _, .nil, e => by simp at e
  | _, _, 0, _, .cons r _, e => by
    simp at e
    subst e
    exact ⟨_, rfl, r⟩
  | _, _, i + 1, _, .cons _ t, e => by
    obtain ⟨v, h1, h2⟩ := VRs.get (i := i) t (by simpa using e)
    exact ⟨v, by simpa using h1, h2⟩
theorem VRs.getV : ∀ {ws : List W} {vs : List V} {i : Nat} {v : V}, VRs G H ι ws vs → vs[i]? = some v → ∃ w, ws[i]? = some w ∧ VR G H ι w v
  | _, _, _, _, .nil, e => by simp at e
  | _, _, 0, _, .cons r _, e => by
    simp at e
    subst e
    exact ⟨_, rfl, r⟩
  | _, _, i + 1, _, .cons _ t, e => by
    obtain ⟨v, h1, h2⟩ := VRs.getV (i := i) t (by simpa using e)
    exact ⟨v, by simpa using h1, h2⟩
theorem VRs.set {w : W} {v : V} (r : VR G H ι w v) : ∀ {ws : List W} {vs : List V} (i : Nat), VRs G H ι ws vs → VRs G H ι (ws.set i w) (vs.set i v)
  | _, _, _, .nil => .nil
  | _, _, 0, .cons _ t => .cons r t
  | _, _, i + 1, .cons q t => .cons q (VRs.set r i t)
theorem VRs.take : ∀ {ws : List W} {vs : List V} (n : Nat), VRs G H ι ws vs → VRs G H ι (ws.take n) (vs.take n)
  | _, _, 0, _ => by simp; exact .nil
  | _, _, _ + 1, .nil => .nil
  | _, _, n + 1, .cons r t => .cons r (VRs.take n t)
theorem VRs.drop : ∀ {ws : List W} {vs : List V} (n : Nat), VRs G H ι ws vs → VRs G H ι (ws.drop n) (vs.drop n)
  | _, _, 0, r => r
  | _, _, _ + 1, .nil => .nil
  | _, _, n + 1, .cons _ t => VRs.drop n t
theorem VRs.cut {ws : List W} {vs : List V} (lo hi : Option Int) (r : VRs G H ι ws vs) : VRs G H ι (cutW ws lo hi) (cutV vs lo hi) := by
  unfold cutW cutV
  rw [r.length]
  exact (r.drop _).take _
theorem OR.step (s : Step ι H ι' H') {a : Addr} {o : O} (hne : H' a = H a) (r : OR G H ι a o) : OR G H' ι' a o := by
  cases o with
  | lst ws =>
    obtain ⟨vs, h1, h2⟩ := r
    exact ⟨vs, hne.trans h1, h2.mono s⟩
  | dct kvs =>
    obtain ⟨vs, h1, h2⟩ := r
    exact ⟨vs, hne.trans h1, h2.mono s⟩
  | ins c fs =>
    obtain ⟨C, dx, vs, h0, h1, h2⟩ := r
    exact ⟨C, dx, vs, h0, hne.trans h1, h2.mono s⟩
/-- a new object is tracked -/
theorem Step.new {p : Addr} {o : HO} (hp : H p = none) : Step ι H ι (upd H p o) := by
  refine ⟨⟨[], by simp, fun _ h => nomatch h⟩, fun a u e _ => ?_, fun a e => ?_, fun a u e _ => ?_⟩
  · rw [upd_ne (ne_of_none e hp)]; exact e
  · by_cases ha : a = p
    · subst ha; rw [upd_same]; exact fun z => nomatch z
    · rw [upd_ne ha]; exact e
  · rw [upd_ne (ne_of_none e hp)]; exact e
/-- a tracked object is written -/
theorem Step.set {a : Addr} {o u : HO} (ha : a ∈ ι) (e0 : H a = some u) (hu : ¬ Fixed u) : Step ι H ι (upd H a o) := by
  refine ⟨⟨[], by simp, fun _ h => nomatch h⟩, fun b q e nb => ?_, fun b e => ?_, fun b x e f => ?_⟩
  · rw [upd_ne (fun z => nb (by rw [z]; exact ha))]; exact e
  · by_cases hb : b = a
    · subst hb; rw [upd_same]; exact fun z => nomatch z
    · rw [upd_ne hb]; exact e
  · rw [upd_ne (fun z => by subst z; rw [e0] at e; cases e; exact hu f)]; exact e
theorem Rel.get (r : Rel G h ι H) {n : Nat} {o : O} (e : h[n]? = some o) : ∃ a, ι[n]? = some a ∧ OR G H ι a o := by
  have hl : n < ι.length := by rw [r.len]; exact (List.getElem?_eq_some_iff.mp e).1
  exact ⟨ι[n], by simp [hl], r.obj n o _ e (by simp [hl])⟩
theorem Rel.sql (r : Rel G h ι H) {n : Nat} {a : Addr} {ws : List W} (e : h[n]? = some (.lst ws)) (ea : ι[n]? = some a) : ∃ vs, SqL G.K H a vs ∧ VRs G H ι ws vs := by
  obtain ⟨vs, h1, h2⟩ := r.obj n _ a e ea
  exact ⟨vs, .of h1, h2⟩
theorem OR.there {a : Addr} {o : O} (q : OR G H ι a o) : H a ≠ none := by
  cases o with
  | lst ws => obtain ⟨vs, e, _⟩ := q; rw [e]; exact fun z => nomatch z
  | dct kvs => obtain ⟨vs, e, _⟩ := q; rw [e]; exact fun z => nomatch z
  | ins c fs => obtain ⟨C, dx, vs, h0, e, h2⟩ := q; rw [e]; exact fun z => nomatch z
theorem Rel.there (r : Rel G h ι H) {a : Addr} (ha : a ∈ ι) : H a ≠ none := by
  obtain ⟨n, e⟩ := List.mem_iff_getElem?.mp ha
  have hl : n < h.length := by rw [← r.len]; exact (List.getElem?_eq_some_iff.mp e).1
  exact (r.obj n h[n] a (by simp [hl]) e).there
theorem Rel.fresh (r : Rel G h ι H) {p : Addr} (hp : H p = none) : p ∉ ι := fun hm => r.there hm hp
/-- objects apart from the small heap change -/
theorem Rel.step (r : Rel G h ι H) (s : Step ι H ι H') (hne : ∀ a ∈ ι, H' a = H a) : Rel G h ι H' :=
  ⟨r.len, fun n o a e ea => (r.obj n o a e ea).step s (hne a (List.mem_of_getElem? ea)), r.inj, r.pre, r.sm.fix s.fix⟩
/-- a new list comes into the small heap -/
theorem Rel.alloc (r : Rel G h ι H) {a : Addr} {o : O} (na : a ∉ ι) (q : OR G H (ι ++ [a]) a o) (s : Step ι H ι H) : Rel G (h ++ [o]) (ι ++ [a]) H := by
  have mn : Mon ι H (ι ++ [a]) H := ⟨fun n b e => by rw [List.getElem?_append_left (List.getElem?_eq_some_iff.mp e).1]; exact e, fun _ _ q _ => q⟩
  have mono : ∀ {w v}, VR G H ι w v → VR G H (ι ++ [a]) w v := fun hv => hv.mon mn
  have monos : ∀ {ws vs}, VRs G H ι ws vs → VRs G H (ι ++ [a]) ws vs := fun hv => VRs.mon mn hv
  have monof : ∀ {κ : Type} {ws : List (κ × W)} {vs : List (κ × V)}, FR G H ι ws vs → FR G H (ι ++ [a]) ws vs := by
    intro κ ws vs hv
    induction hv with
    | nil => exact .nil
    | cons r _ ih => exact .cons (mono r) ih
  have hl := r.len
  have low : ∀ {n : Nat} {b : Addr}, (ι ++ [a])[n]? = some b → (n < h.length ∧ ι[n]? = some b) ∨ (n = h.length ∧ b = a) := fun {n b} e => by
    by_cases hn : n < ι.length
    · rw [List.getElem?_append_left hn] at e
      exact .inl ⟨by omega, e⟩
    · rw [List.getElem?_append_right (by omega)] at e
      have hb := (List.getElem?_eq_some_iff.mp e).1
      simp at hb
      have e0 : n = h.length := by omega
      subst e0
      rw [hl] at e
      simp at e
      exact .inr ⟨rfl, e.symm⟩
  refine ⟨by simp [hl], fun n u b e eb => ?_, fun m n b em en => ?_, ?_, r.sm⟩
  · rcases low eb with ⟨hn, eb2⟩ | ⟨hn, eb2⟩
    · rw [List.getElem?_append_left hn] at e
      have z := r.obj n u b e eb2
      cases u with
      | lst ws => obtain ⟨vs, h1, h2⟩ := z; exact ⟨vs, h1, monos h2⟩
      | dct kvs => obtain ⟨vs, h1, h2⟩ := z; exact ⟨vs, h1, monof h2⟩
      | ins c fs => obtain ⟨C, dx, vs, h0, h1, h2⟩ := z; exact ⟨C, dx, vs, h0, h1, monof h2⟩
    · subst hn; subst eb2
      rw [List.getElem?_append_right (Nat.le_refl _)] at e
      simp at e
      subst e
      exact q
  · rcases low em with ⟨hm, em2⟩ | ⟨hm, em2⟩
    · rcases low en with ⟨hn, en2⟩ | ⟨hn, en2⟩
      · exact r.inj m n b em2 en2
      · subst en2
        exact absurd (List.mem_of_getElem? em2) na
    · rcases low en with ⟨hn, en2⟩ | ⟨hn, en2⟩
      · subst em2
        exact absurd (List.mem_of_getElem? en2) na
      · omega
  · obtain ⟨q, hq⟩ := r.pre
    exact ⟨q ++ [a], by rw [hq, List.append_assoc]⟩
/-- an object of the small heap is written -/
theorem Rel.set (r : Rel G h ι H) {n : Nat} {a : Addr} {o o' : O} {u u' : HO} (e : h[n]? = some o) (ea : ι[n]? = some a) (e0 : H a = some u) (hu : ¬ Fixed u)
    (q : OR G (upd H a u') ι a o') : Rel G (h.set n o') ι (upd H a u') ∧ Step ι H ι (upd H a u') := by
  have s : Step ι H ι (upd H a u') := Step.set (List.mem_of_getElem? ea) e0 hu
  have hn := (List.getElem?_eq_some_iff.mp e).1
  refine ⟨⟨by rw [List.length_set]; exact r.len, fun m p b em eb => ?_, r.inj, r.pre, r.sm.fix s.fix⟩, s⟩
  by_cases hm : n = m
  · subst hm
    rw [List.getElem?_set_self hn] at em
    cases em
    rw [ea] at eb; cases eb
    exact q
  · rw [List.getElem?_set_ne hm] at em
    have hb : b ≠ a := fun z => by
      subst z
      exact hm (r.inj n m b ea eb)
    exact (r.obj m p b em eb).step s (upd_ne hb)
end

theorem Rel.new {G : Pg} {ι : List Addr} {H : Hp} {h : List O} {p : Addr} {o : HO} (r : Rel G h ι H) (hp : H p = none) : Rel G h ι (upd H p o) :=
  r.step (Step.new hp) fun a ha => upd_ne fun z => r.there ha (by rw [z]; exact hp)
theorem Step.back {ι ι' : List Addr} {H H' : Hp} (s : Step ι H ι' H') {p : Addr} (hp : H' p = none) : H p = none := by
  cases e : H p with
  | none => rfl
  | some o => exact absurd hp (s.there p (by rw [e]; exact fun z => nomatch z))

/-- an object apart from the small heap, new since then, is written -/
theorem Step.apart {ι ι' : List Addr} {H H' : Hp} (s : Step ι H ι' H') {D : Addr} {o u : HO} (h0 : H D = none) (e : H' D = some u) (hu : ¬ Fixed u) : Step ι H ι' (upd H' D o) ∧ Mon ι' H' ι' (upd H' D o) := by
  have f : ∀ a x, H' a = some x → Fixed x → upd H' D o a = some x := fun a x q z => by
    rw [upd_ne (fun w => by subst w; rw [e] at q; cases q; exact hu z)]; exact q
  refine ⟨⟨s.ext, fun a q e1 na => ?_, fun a e1 => ?_, fun a x q z => f a x (s.fix a x q z) z⟩, ⟨fun _ _ q => q, f⟩⟩
  · rw [upd_ne (ne_of_none e1 h0)]; exact s.keep a q e1 na
  · by_cases ha : a = D
    · subst ha; rw [upd_same]; exact fun z => nomatch z
    · rw [upd_ne ha]; exact s.there a e1
theorem Rel.mon {G : Pg} {ι : List Addr} {H H' : Hp} {h : List O} (r : Rel G h ι H) (m : Mon ι H ι H') (hne : ∀ a ∈ ι, H' a = H a) : Rel G h ι H' := by
  have fm : ∀ {κ : Type} {ws : List (κ × W)} {vs : List (κ × V)}, FR G H ι ws vs → FR G H' ι ws vs := by
    intro κ ws vs hv
    induction hv with
    | nil => exact .nil
    | cons r _ ih => exact .cons (r.mon m) ih
  refine ⟨r.len, fun n o a e ea => ?_, r.inj, r.pre, r.sm.fix m.fix⟩
  have q := r.obj n o a e ea
  have z := hne a (List.mem_of_getElem? ea)
  cases o with
  | lst ws => obtain ⟨vs, h1, h2⟩ := q; exact ⟨vs, z.trans h1, h2.mon m⟩
  | dct kvs => obtain ⟨vs, h1, h2⟩ := q; exact ⟨vs, z.trans h1, fm h2⟩
  | ins c fs => obtain ⟨C, dx, vs, h0, h1, h2⟩ := q; exact ⟨C, dx, vs, h0, z.trans h1, fm h2⟩

/-! ### slots -/
structure LR (G : Pg) (H : Hp) (ι : List Addr) (ℓ : Lo) (σ : L2.St) : Prop where
  len : ℓ.length = σ.length
  at_ : ∀ i w, getL ℓ i = some w → ∃ v, σ[i]? = some (some v) ∧ VR G H ι w v
section
variable {G : Pg} {ι ι' : List Addr} {H H' : Hp} {ℓ : Lo} {σ : L2.St}
theorem LR.mono (s : Step ι H ι' H') (r : LR G H ι ℓ σ) : LR G H' ι' ℓ σ :=
  ⟨r.len, fun i w e => by obtain ⟨v, h1, h2⟩ := r.at_ i w e; exact ⟨v, h1, h2.mono s⟩⟩
theorem getL_set_self {i : Nat} {w u : W} (h : getL (ℓ.set i (some w)) i = some u) : u = w ∧ i < ℓ.length := by
  unfold getL at h
  by_cases hi : i < ℓ.length
  · rw [List.getElem?_set_self hi] at h
    simp at h
    exact ⟨h.symm, hi⟩
  · rw [List.getElem?_eq_none (by simp; omega)] at h
    simp at h
theorem getL_set_ne {i j : Nat} {o : Option W} (h : i ≠ j) : getL (ℓ.set i o) j = getL ℓ j := by
  unfold getL
  rw [List.getElem?_set_ne h]
theorem LR.set (r : LR G H ι ℓ σ) {i : Nat} {w : W} {v : V} (q : VR G H ι w v) : LR G H ι (ℓ.set i (some w)) (σ.set i (some v)) := by
  refine ⟨by rw [List.length_set, List.length_set]; exact r.len, fun j u e => ?_⟩
  by_cases hj : i = j
  · subst hj
    obtain ⟨rfl, hi⟩ := getL_set_self e
    exact ⟨v, by rw [List.getElem?_set_self (by rw [← r.len]; exact hi)], q⟩
  · rw [getL_set_ne hj] at e
    rw [List.getElem?_set_ne hj]
    exact r.at_ j u e
theorem LR.clear (r : LR G H ι ℓ σ) (i : Nat) : LR G H ι (ℓ.set i none) (σ.set i none) := by
  refine ⟨by rw [List.length_set, List.length_set]; exact r.len, fun j u e => ?_⟩
  by_cases hj : i = j
  · subst hj
    unfold getL at e
    by_cases hi : i < ℓ.length
    · rw [List.getElem?_set_self hi] at e; cases e
    · rw [List.getElem?_eq_none (by simp; omega)] at e; cases e
  · rw [getL_set_ne hj] at e
    rw [List.getElem?_set_ne hj]
    exact r.at_ j u e
theorem LR.wipe (r : LR G H ι ℓ σ) : ∀ vs : List Nat, LR G H ι (wipeL ℓ vs) (wipe σ vs)
  | [] => r
  | v :: vs => (LR.wipe r vs).clear v
end

/-! ### ends of a run -/
def XR (G : Pg) (H : Hp) (ι : List Addr) (x : Exn) (cls : Value) (d : Option Addr) : Prop :=
  ∃ C, G.cls x.cls = some C ∧ cls = .ref C ∧ ((x.fs = [] ∧ d = none) ∨ ∃ dd vs, d = some dd ∧ H dd = some (.xd vs) ∧ FR G H ι x.fs vs ∧ dd ∉ ι)
def Post {α : Type} (G : Pg) (Wx : WX) (σ : L2.St) (ι : List Addr) (H : Hp) (r : R α) (k : α → List O → List Addr → Hp → Prop) : Prop := match r with
  | .ok a h' => ∀ ι' H', Step ι H ι' H' → Rel G h' ι' H' → k a h' ι' H'
  | .exc x h' => ∀ ι' H' cls d, Step ι H ι' H' → Rel G h' ι' H' → XR G H' ι' x cls d → Wx cls d σ H'
  | .stuck => False
section
variable {α β : Type} {G : Pg} {Wx : WX} {σ : L2.St} {ι ι1 : List Addr} {H H1 : Hp}
theorem Post.imp {r : R α} {k k' : α → List O → List Addr → Hp → Prop} (p : Post G Wx σ ι H r k) (f : ∀ a h' ι' H', Step ι H ι' H' → Rel G h' ι' H' → k a h' ι' H' → k' a h' ι' H') : Post G Wx σ ι H r k' := by
  cases r with
  | ok a h' => exact fun ι' H' s q => f a h' ι' H' s q (p ι' H' s q)
  | exc x h' => exact p
  | stuck => exact p
theorem Post.later {r : R α} {k : α → List O → List Addr → Hp → Prop} (p : Post G Wx σ ι H r k) (s : Step ι H ι1 H1) : Post G Wx σ ι1 H1 r k := by
  cases r with
  | ok a h' => exact fun ι' H' t q => p ι' H' (s.trans t) q
  | exc x h' => exact fun ι' H' cls d t q => p ι' H' cls d (s.trans t) q
  | stuck => exact p
theorem Post.bind {r : R α} {f : α → List O → R β} {k : β → List O → List Addr → Hp → Prop} (p : Post G Wx σ ι H (r.bind f) k) : Post G Wx σ ι H r (fun a h1 ι1 H1 => Post G Wx σ ι1 H1 (f a h1) k) := by
  cases r with
  | ok a h' =>
    intro ι' H' s q
    have p' : Post G Wx σ ι H (f a h') k := p
    exact p'.later s
  | exc x h' => exact p
  | stuck => exact p
theorem Post.bind0 {r : R α} {f : α → List O → R β} {k : β → List O → List Addr → Hp → Prop} (p : Post G Wx σ ι H (r.bind f) k) : Post G Wx σ ι H r (fun a h1 _ _ => Post G Wx σ ι H (f a h1) k) := by
  cases r with
  | ok a h' => exact fun _ _ _ _ => p
  | exc x h' => exact p
  | stuck => exact p
theorem Post.ok {a : α} {h : List O} {k : α → List O → List Addr → Hp → Prop} (p : Post G Wx σ ι H (R.ok a h) k) (q : Rel G h ι H) : k a h ι H := p ι H .refl q
theorem Post.chk {b : Bool} {r : R α} {k : α → List O → List Addr → Hp → Prop} (p : Post G Wx σ ι H (chk b r) k) : b = true ∧ Post G Wx σ ι H r k := by
  cases b with
  | true => exact ⟨rfl, p⟩
  | false => exact False.elim p
end

/-! ### readings by the interpreter -/
/-- a value -/
def tV (G : Pg) (Wx : WX) (m : Lo → List O → R W) : TE := fun σ H Q => ∃ ι h ℓ, Rel G h ι H ∧ LR G H ι ℓ σ ∧ Post G Wx σ ι H (m ℓ h) fun w _ ι' H' => ∀ v, VR G H' ι' w v → Q v H'
/-- a new list, or the very one that stands in the small heap -/
def tL (G : Pg) (Wx : WX) (m : Lo → List O → R (List W)) : TE := fun σ H Q => ∃ ι h ℓ, Rel G h ι H ∧ LR G H ι ℓ σ ∧
  Post G Wx σ ι H (m ℓ h) fun ws _ ι' H' => ∀ D vs, H D = none → D ∉ ι' → H' D = some (.lst vs) → VRs G H' ι' ws vs → Q (.ref D) H'
/-- a truth -/
def tT (G : Pg) (Wx : WX) (m : Lo → List O → R Bool) : TT := fun σ H Q => ∃ ι h ℓ, Rel G h ι H ∧ LR G H ι ℓ σ ∧ Post G Wx σ ι H (m ℓ h) fun b _ _ H' => Q b H'
/-- several values -/
def tA (G : Pg) (Wx : WX) (m : Lo → List O → R (List W)) : TA := fun σ H Q => ∃ ι h ℓ, Rel G h ι H ∧ LR G H ι ℓ σ ∧ Post G Wx σ ι H (m ℓ h) fun ws _ ι' H' => ∀ vs, VRs G H' ι' ws vs → Q vs H'
theorem PE.imp {X : Cx} {e : Expr} {t t' : TE} (h : PE X e t) (f : ∀ σ H Q, t' σ H Q → t σ H Q) : PE X e t' := ⟨fun pins s σ H Q I q => h.run pins s σ H Q I (f σ H Q q)⟩
theorem PT.imp {X : Cx} {e : Expr} {t t' : TT} (h : PT X e t) (f : ∀ σ H Q, t' σ H Q → t σ H Q) : PT X e t' := ⟨fun pins s σ H Q I q => h.run pins s σ H Q I (f σ H Q q)⟩
theorem PW.imp {X : Cx} {e : Expr} {t t' : TT} (h : PW X e t) (f : ∀ σ H Q, t' σ H Q → t σ H Q) : PW X e t' := ⟨fun wh pins s σ H Q I q => h.run wh pins s σ H Q I (f σ H Q q)⟩
theorem PA.imp {X : Cx} {es : List Expr} {t t' : TA} (h : PA X es t) (f : ∀ σ H Q, t' σ H Q → t σ H Q) : PA X es t' := ⟨fun pos pins s σ H Q I q => h.run pos pins s σ H Q I (f σ H Q q)⟩
theorem PS.imp {X : Cx} {e : Stmt} {t t' : TS} (h : PS X e t) (f : ∀ D σ H, t' D σ H → t D σ H) : PS X e t' := ⟨fun pins s σ H D I q => h.run pins s σ H D I (f D σ H q)⟩
theorem PSs.imp {X : Cx} {e : List Stmt} {t t' : TS} (h : PSs X e t) (f : ∀ D σ H, t' D σ H → t D σ H) : PSs X e t' := ⟨fun pins s σ H D I q => h.run pins s σ H D I (f D σ H q)⟩
theorem PI.imp {X : Cx} {tg e : Expr} {t t' : TI} (h : PI X tg e t) (f : ∀ σ H Q, t' σ H Q → t σ H Q) : PI X tg e t' := ⟨fun pins s σ H Q I q => h.run pins s σ H Q I (f σ H Q q)⟩
theorem PG.imp {X : Cx} {tg : Expr} {t t' : TG} (h : PG X tg t) (f : ∀ v σ H Q, t' v σ H Q → t v σ H Q) : PG X tg t' := ⟨fun pins s σ H v u Q I r q => h.run pins s σ H v u Q I r (f v σ H Q q)⟩
theorem PGs.imp {X : Cx} {tg : List Expr} {t t' : TGs} (h : PGs X tg t) (f : ∀ v σ H Q, t' v σ H Q → t v σ H Q) : PGs X tg t' := ⟨fun pins s σ H v u Q I r q => h.run pins s σ H v u Q I r (f v σ H Q q)⟩
theorem OpR.imp {X : Cx} {f : Value → Value → Sem Value} {r r' : R2} (h : OpR X f r) (i : ∀ x y H Q, r' x y H Q → r x y H Q) : OpR X f r' := fun pins s σ H x y v u Q I rx ry q => h pins s σ H x y v u Q I rx ry (i x y H Q q)
theorem OpR.or {X : Cx} {f : Value → Value → Sem Value} {r r' : R2} (h : OpR X f r) (h' : OpR X f r') : OpR X f (fun x y H Q => r x y H Q ∨ r' x y H Q) := fun pins s σ H x y v u Q I rx ry q => by
  rcases q with q | q
  · exact h pins s σ H x y v u Q I rx ry q
  · exact h' pins s σ H x y v u Q I rx ry q
end MP
set_option maxRecDepth 100000
set_option maxHeartbeats 4000000
namespace MP
open PySem PySem.Spec PyProof.Rows L2
section
variable {X : Cx} {G : Pg} {Wx : WX} {σ : L2.St} {ι : List Addr} {H : Hp} {h : List O} {Q : VK}

/-- what is wanted of a value that the small run gives -/
abbrev Wants (Q : VK) (G : Pg) : W → List O → List Addr → Hp → Prop := fun w _ ι' H' => ∀ v, VR G H' ι' w v → Q v H'
theorem Wants.int {i : Int} (p : Post G Wx σ ι H (.ok (.int i) h) (Wants Q G)) (r : Rel G h ι H) : Q (.int i) H := p ι H .refl r _ (.int i)
theorem Wants.bl {i : Bool} (p : Post G Wx σ ι H (.ok (.bl i) h) (Wants Q G)) (r : Rel G h ι H) : Q (.bl i) H := p ι H .refl r _ (.bl i)
theorem Wants.str {i : Str} (p : Post G Wx σ ι H (.ok (.str i) h) (Wants Q G)) (r : Rel G h ι H) : Q (.str i) H := p ι H .refl r _ (.str i)
theorem Wants.non (p : Post G Wx σ ι H (.ok .non h) (Wants Q G)) (r : Rel G h ι H) : Q .non H := p ι H .refl r _ .non
theorem oB_ok {o : Option Bool} (p : Post G Wx σ ι H (oB o h) (Wants Q G)) (r : Rel G h ι H) : ∃ b, o = some b ∧ Q (.bl b) H := by
  cases o with
  | none => exact False.elim p
  | some b => exact ⟨b, rfl, Wants.bl p r⟩

theorem mon_app {ι : List Addr} {H : Hp} {D : Addr} : Mon ι H (ι ++ [D]) H := ⟨fun n b e => by rw [List.getElem?_append_left (List.getElem?_eq_some_iff.mp e).1]; exact e, fun _ _ q _ => q⟩
theorem post_alloc {σ : L2.St} {ι : List Addr} {H H' : Hp} {h : List O} {o : O} {Q : VK} {D : Addr} (p : Post G Wx σ ι H (alloc o h) (Wants Q G)) (r : Rel G h ι H') (hD : H D = none) (nD : D ∉ ι) (s : Step ι H ι H') (q : OR G H' (ι ++ [D]) D o) : Q (.ref D) H' := by
  have s2 : Step ι H (ι ++ [D]) H' := ⟨⟨[D], rfl, fun a ha => by rw [List.mem_singleton.mp ha]; exact hD⟩, s.keep, s.there, s.fix⟩
  have q2 : Rel G (h ++ [o]) (ι ++ [D]) H' := r.alloc nD q .refl
  have p2 : Post G Wx σ ι H (.ok (.ref h.length) (h ++ [o])) (Wants Q G) := p
  refine p2 _ H' s2 q2 _ (.ref ?_)
  rw [List.getElem?_append_right (by rw [r.len]; exact Nat.le_refl _), r.len, Nat.sub_self]
  rfl
/-! ### locking what is new: it never changes from then on -/
def Lk (Q : VK) : VK := fun v H => Q v H ∨ ∃ a u, H a = some u ∧ Mut (some u) ∧ ∀ od, Q v (upd H a (.frz od u))
theorem Lk.ep {pins : List (Addr × Obj)} {s : Shared} {u : Value} (h : EP X pins σ (Lk Q) u s) : EP X pins σ Q u s := by
  obtain ⟨v, H1, I1, r1, q⟩ := h
  rcases q with q | ⟨a, u, e, mu, q⟩
  · exact ⟨v, H1, I1, r1, q⟩
  · obtain ⟨od, I2⟩ := I1.lock e mu
    exact ⟨v, _, I2, r1, q od⟩
theorem PE.lock {e : Expr} {t : TE} (h : PE X e t) : PE X e (fun σ H Q => t σ H (Lk Q)) := ⟨fun pins s σ H Q I q => thn (h.run pins s σ H _ I q) fun _ _ z => Lk.ep z⟩
theorem OpR.lock {f : Value → Value → Sem Value} {r : R2} (h : OpR X f r) : OpR X f (fun x y H Q => r x y H (Lk Q)) := fun pins s σ H x y v u Q I rx ry q => thn (h pins s σ H x y v u _ I rx ry q) fun _ _ z => Lk.ep z
/-- a list + a list -/
def rCatS (K : PySem.W.Frag) : R2 := fun x y H Q => ∃ l b xs zs, x = .ref l ∧ y = .ref b ∧ CatL K H l xs ∧ CatL K H b zs ∧ xs.length + zs.length ≤ sizeLine ∧ ∀ p, H p = none → Q (.ref p) (upd H p (.lst (xs ++ zs)))
theorem catL_is {pins : List (Addr × Obj)} {s : Shared} {a : Addr} {xs : List V} (I : Inv X pins σ H s) (h : CatL X.K H a xs) : ∃ (its : List Value) (n : Nat), Vals xs its ∧ s.heap.get? a = some { cls := .type "list", data := .seq its.toArray n } := by
  rcases h with h | ⟨o, h⟩ | ⟨o, its, n, h1, rfl, h2, h3⟩
  · obtain ⟨_, its, n, r, e⟩ := (show ObjOk X.prog X.w H s.heap a (.lst xs) from I.hok a _ h)
    exact ⟨its, n, r, e⟩
  · obtain ⟨_, _, its, n, r, e⟩ := (show ObjOk X.prog X.w H s.heap a (.frz o (.lst xs)) from I.hok a _ h)
    exact ⟨its, n, r, e⟩
  · exact ⟨its.toList, n, h3, I.kIn a _ h1⟩
theorem op_catS : OpR X (binaryOp .Add) (rCatS X.K) := by
  intro pins s σ H x y v u Q I rx ry h
  obtain ⟨l, b, xs, zs, rfl, rfl, hH, hB, hz, q⟩ := h
  cases rx
  cases ry
  obtain ⟨its, n, r, e⟩ := catL_is I hH
  obtain ⟨its2, n2, r2, e2⟩ := catL_is I hB
  have hl := r.length
  have hl2 := r2.length
  refine PySem.P.add_list e e2 ?_ (by rw [List.size_toArray, List.size_toArray]; omega)
  have ea : its.toArray ++ its2.toArray = (its ++ its2).toArray := by simp
  rw [ea]
  exact ⟨.ref _, _, I.lnew (t' := s.toks) (r.append r2) (by rw [List.length_append]; omega), rfl, q _ I.fresh⟩
/-! ### + - * // % ** -/
def rNo : R2 := fun _ _ _ _ => False
theorem op_no {f : Value → Value → Sem Value} : OpR X f rNo := fun _ _ _ _ _ _ _ _ _ _ _ _ h => h.elim
def rBin (K : PySem.W.Frag) : Operator → R2
  | .Add => fun x y H Q => rCatS K x y H (Lk Q) ∨ rI0 (fun i j => .int (i + j)) x y H Q ∨ (∃ i j, x = .str i ∧ y = .str j ∧ i.length + j.length ≤ sizeLine ∧ Q (.str (i ++ j)) H) ∨ rCatA K x y H Q
  | .Sub => rI0 fun i j => .int (i - j)
  | .Mult => fun x y H Q => rI CMul (fun i j => .int (i * j)) x y H Q ∨ rI CMulW (fun i j => .int (i * j)) x y H Q
  | .FloorDiv => fun x y H Q => rI CDivN (fun i j => .int (i.fdiv j)) x y H Q ∨ rI CDivW (fun i j => .int (i / j)) x y H Q
  | .Mod => rI (fun _ j => j ≠ 0) fun i j => .int (i.fmod j)
  | .Pow => rI CPow fun i j => .int (i ^ j.toNat)
  | _ => rNo
theorem op_bin : ∀ op : Operator, OpR X (binaryOp op) (rBin X.K op)
  | .Add => (OpR.lock op_catS).or (op_add.or (op_add_str.or op_catA))
  | .Sub => op_sub
  | .Mult => op_mul.or op_mulW
  | .FloorDiv => op_fdivN.or op_fdivW
  | .Mod => op_modN
  | .Pow => op_pow
  | .MatMult => op_no
  | .Div => op_no
  | .LShift => op_no
  | .RShift => op_no
  | .BitOr => op_no
  | .BitXor => op_no
  | .BitAnd => op_no
theorem bin_sound {op : Operator} {x y : W} {u v : V} (hx : VR G H ι x u) (hy : VR G H ι y v) (r : Rel G h ι H) (p : Post G Wx σ ι H (binW op x y h) (Wants Q G)) : rBin G.K op u v H Q := by
  unfold binW at p
  split at p
  · cases hx; cases hy
    exact .inr (.inl ⟨_, _, rfl, rfl, Wants.int p r⟩)
  · obtain ⟨c, p⟩ := p.chk
    cases hx with
    | tup hs hr =>
      cases hy with
      | tup hs2 hr2 =>
        have c := of_decide_eq_true c
        have l1 := hr.length
        have l2 := hr2.length
        refine .inr (.inr (.inr ⟨_, _, _, _, rfl, rfl, hs, hs2, by rw [← l1, ← l2]; exact c, fun e => ?_, fun _ e => ?_, fun _ _ q hq => ?_⟩))
        · subst e
          cases hr
          exact p.ok r _ (.tup hs2 hr2)
        · subst e
          cases hr2
          exact p.ok r _ (by rw [List.append_nil]; exact .tup hs hr)
        · exact p ι _ (Step.new hq) (r.new hq) _ (.tup (.of upd_same) ((hr.append hr2).mono (Step.new hq)))
  · obtain ⟨c, p⟩ := p.chk
    cases hx with
    | slst hs hr =>
      cases hy with
      | slst hs2 hr2 =>
        have c := of_decide_eq_true c
        refine .inl ⟨_, _, _, _, rfl, rfl, .inr hs, .inr hs2, by rw [← hr.length, ← hr2.length]; exact c, fun t ht => .inr ⟨t, _, upd_same, trivial, fun od => ?_⟩⟩
        rw [upd_upd]
        exact p ι _ (Step.new ht) (r.new ht) _ (.slst (.inl ⟨od, upd_same⟩) ((hr.append hr2).mono (Step.new ht)))
  · split at p
    · rename_i xs ys e1 e2
      obtain ⟨c, p⟩ := p.chk
      have c := of_decide_eq_true c
      cases hx with
      | ref ha =>
        cases hy with
        | ref hb =>
          obtain ⟨vs, a1, a2⟩ := r.obj _ _ _ e1 ha
          obtain ⟨us, b1, b2⟩ := r.obj _ _ _ e2 hb
          refine .inl ⟨_, _, vs, us, rfl, rfl, .inl a1, .inl b1, by rw [← a2.length, ← b2.length]; exact c, fun t ht => .inl ?_⟩
          have st : Step ι H ι (upd H t (.lst (vs ++ us))) := Step.new ht
          refine post_alloc p (r.new ht) ht (r.fresh ht) st ⟨_, upd_same, VRs.mon mon_app ((a2.append b2).mono st)⟩
    · exact False.elim p
  · cases hx; cases hy
    obtain ⟨c, p⟩ := p.chk
    exact .inr (.inr (.inl ⟨_, _, rfl, rfl, of_decide_eq_true c, Wants.str p r⟩))
  · cases hx; cases hy
    exact ⟨_, _, rfl, rfl, Wants.int p r⟩
  · cases hx; cases hy
    obtain ⟨c, p⟩ := p.chk
    have q := Wants.int p r
    unfold mulOk at c
    simp only [Bool.or_eq_true, decide_eq_true_eq] at c
    rcases c with c | c | c
    · exact .inl ⟨_, _, rfl, rfl, .inl c, q⟩
    · exact .inl ⟨_, _, rfl, rfl, .inr c, q⟩
    · exact .inr ⟨_, _, rfl, rfl, c, q⟩
  · cases hx; cases hy
    obtain ⟨c, p⟩ := p.chk
    have q := Wants.int p r
    unfold divOk at c
    simp only [Bool.or_eq_true, decide_eq_true_eq] at c
    rcases c with c | c
    · exact .inl ⟨_, _, rfl, rfl, c, q⟩
    · rw [Int.fdiv_eq_ediv_of_nonneg _ (by omega)] at q
      exact .inr ⟨_, _, rfl, rfl, c, q⟩
  · cases hx; cases hy
    obtain ⟨c, p⟩ := p.chk
    exact ⟨_, _, rfl, rfl, of_decide_eq_true c, Wants.int p r⟩
  · cases hx; cases hy
    obtain ⟨c, p⟩ := p.chk
    unfold powOk at c
    have c := of_decide_eq_true c
    exact ⟨_, _, rfl, rfl, c, Wants.int p r⟩
  · exact False.elim p

/-! ### data -/
mutual
inductive DR (K : PySem.W.Frag) (H : Hp) : V → PyData → Prop
  | non : DR K H .non .none
  | bl (b : Bool) : DR K H (.bl b) (.bool b)
  | int (i : Int) : DR K H (.int i) (.int i)
  | str (x : Str) : DR K H (.str x) (.str x)
  | lst {a : Addr} {xs : List V} {ds : List PyData} : SqL K H a xs → DRs K H xs ds → DR K H (.ref a) (.list ds)
  | tup {a : Addr} {xs : List V} {ds : List PyData} : SqT K H a xs → DRs K H xs ds → DR K H (.ref a) (.tuple ds)
  | dct {a : Addr} {m : List (Key × V)} {ds : List (PyData × PyData)} : Rd H a (.dK m) → DRk K H m ds → DR K H (.ref a) (.dict ds)
inductive DRs (K : PySem.W.Frag) (H : Hp) : List V → List PyData → Prop
  | nil : DRs K H [] []
  | cons {v : V} {vs : List V} {d : PyData} {ds : List PyData} : DR K H v d → DRs K H vs ds → DRs K H (v :: vs) (d :: ds)
inductive DRk (K : PySem.W.Frag) (H : Hp) : List (Key × V) → List (PyData × PyData) → Prop
  | nil : DRk K H [] []
  | cons {k : Key} {v : V} {vs : List (Key × V)} {d : PyData} {ds : List (PyData × PyData)} : DR K H v d → DRk K H vs ds → DRk K H ((k, v) :: vs) ((keyD k, d) :: ds)
end
mutual
theorem DR.dp {K : PySem.W.Frag} {H : Hp} : ∀ {v : V} {d : PyData}, DR K H v d → d.hasDict = false → Dp K H v d
  | _, _, .non, _ => .non
  | _, _, .bl b, _ => .bl b
  | _, _, .int i, _ => .int i
  | _, _, .str x, _ => .str x
  | _, _, .lst h r, e => .lst h (DRs.dp r (by simpa only [PyData.hasDict] using e))
  | _, _, .tup h r, e => .tup h (DRs.dp r (by simpa only [PyData.hasDict] using e))
  | _, _, .dct h r, e => by simp [PyData.hasDict] at e
theorem DRs.dp {K : PySem.W.Frag} {H : Hp} : ∀ {vs : List V} {ds : List PyData}, DRs K H vs ds → PyData.hasDictAll ds = false → DpAll K H vs ds
  | _, _, .nil, _ => .nil
  | _, _, .cons r t, e => by
    simp only [PyData.hasDictAll, Bool.or_eq_false_iff] at e
    exact .cons (DR.dp r e.1) (DRs.dp t e.2)
end
theorem DRs.of {K : PySem.W.Frag} {H : Hp} {R : W → V → Prop} {f : W → Option PyData} (hf : ∀ {w v d}, R w v → f w = some d → DR K H v d) : ∀ {ws : List W} {vs : List V} {ds : List PyData}, Paired R ws vs → ws.mapM f = some ds → DRs K H vs ds := by
  intro ws
  induction ws with
  | nil =>
    intro vs ds hv e
    cases hv
    simp at e
    subst e
    exact .nil
  | cons w ws ih2 =>
    intro vs ds hv e
    cases hv with
    | cons h1 h2 =>
      simp only [List.mapM_cons, Option.pure_def, Option.bind_eq_bind, Option.bind_eq_some_iff] at e
      obtain ⟨d, e1, ds', e2, e3⟩ := e
      cases e3
      exact .cons (hf h1 e1) (ih2 h2 e2)
theorem DRk.of {K : PySem.W.Frag} {H : Hp} {R : W → V → Prop} {f : W → Option PyData} (hf : ∀ {w v d}, R w v → f w = some d → DR K H v d) : ∀ {ws : List (Key × W)} {vs : List (Key × V)} {ds : List (PyData × PyData)}, Paired (fun p q => p.1 = q.1 ∧ R p.2 q.2) ws vs →
    (ws.mapM fun kv => (f kv.2).map fun d => (keyD kv.1, d)) = some ds → DRk K H vs ds := by
  intro ws
  induction ws with
  | nil =>
    intro vs ds hv e
    cases hv
    simp at e
    subst e
    exact .nil
  | cons w ws ih2 =>
    intro vs ds hv e
    cases hv with
    | @cons _ q _ _ h1 h2 =>
      obtain ⟨k, w⟩ := w
      obtain ⟨k', v⟩ := q
      obtain ⟨h1, h3⟩ := h1
      dsimp only at h1 h3
      subst h1
      simp only [List.mapM_cons, Option.pure_def, Option.bind_eq_bind, Option.bind_eq_some_iff, Option.map_eq_some_iff] at e
      obtain ⟨_, ⟨d, e1, rfl⟩, ds', e2, e3⟩ := e
      cases e3
      exact .cons (hf h3 e1) (ih2 h2 e2)
theorem VRs.pair {G : Pg} {H : Hp} {ι : List Addr} : ∀ {ws : List W} {vs : List V}, VRs G H ι ws vs → Paired (VR G H ι) ws vs
  | _, _, .nil => .nil
  | _, _, .cons r t => .cons r (VRs.pair t)
theorem VKs.pair {G : Pg} {H : Hp} {ι : List Addr} : ∀ {ws : List (Key × W)} {vs : List (Key × V)}, VKs G H ι ws vs → Paired (fun p q => p.1 = q.1 ∧ VR G H ι p.2 q.2) ws vs
  | _, _, .nil => .nil
  | _, _, .cons r t => .cons ⟨rfl, r⟩ (VKs.pair t)
theorem dp_of (r : Rel G h ι H) : ∀ (n : Nat) {w : W} {v : V} {d : PyData}, VR G H ι w v → toD h n w = some d → DR G.K H v d := by
  intro n
  induction n with
  | zero =>
    intro w v d hv e
    cases hv <;> simp [toD] at e
    · subst e; exact .non
    · subst e; exact .bl _
    · subst e; exact .int _
    · subst e; exact .str _
  | succ n ih =>
    intro w v d hv e
    cases hv with
    | non => simp [toD] at e; subst e; exact .non
    | bl b => simp [toD] at e; subst e; exact .bl _
    | int i => simp [toD] at e; subst e; exact .int _
    | str x => simp [toD] at e; subst e; exact .str _
    | tup hs hr =>
      rw [toD, Option.map_eq_some_iff] at e
      obtain ⟨ds, e1, rfl⟩ := e
      exact .tup hs (DRs.of (f := toD h n) ih hr.pair e1)
    | slst hs hr =>
      rw [toD, Option.map_eq_some_iff] at e
      obtain ⟨ds, e1, rfl⟩ := e
      exact .lst hs.sql (DRs.of (f := toD h n) ih hr.pair e1)
    | sdct hs hr =>
      rw [toD, Option.map_eq_some_iff] at e
      obtain ⟨ds, e1, rfl⟩ := e
      exact .dct (.inr ⟨_, hs⟩) (DRk.of (f := toD h n) ih hr.pair e1)
    | ref ha =>
      rw [toD] at e
      split at e
      · rename_i ws eo
        rw [Option.map_eq_some_iff] at e
        obtain ⟨ds, e1, rfl⟩ := e
        obtain ⟨vs, hs, hr⟩ := r.sql eo ha
        exact .lst hs (DRs.of (f := toD h n) ih hr.pair e1)
      · rename_i ws eo
        rw [Option.map_eq_some_iff] at e
        obtain ⟨ds, e1, rfl⟩ := e
        obtain ⟨m, hs, hr⟩ := r.obj _ _ _ eo ha
        exact .dct (.of hs) (DRk.of (f := toD h n) ih hr.vk.pair e1)
      · cases e
theorem dp_all (r : Rel G h ι H) (n : Nat) {ws : List W} {vs : List V} {ds : List PyData} (hv : VRs G H ι ws vs) (e : ws.mapM (toD h n) = some ds) : DRs G.K H vs ds := DRs.of (f := toD h n) (dp_of r n) hv.pair e

/-! ### operands -/
/-- an operand's image: a value's, or that of a new list -/
def OpdR (G : Pg) (H : Hp) (ι : List Addr) : Opd → V → Prop
  | .inl ws, v => ∃ D vs, v = .ref D ∧ H D = some (.lst vs) ∧ D ∉ ι ∧ VRs G H ι ws vs
  | .inr w, v => VR G H ι w v
theorem OpdR.mono {ι' : List Addr} {H' : Hp} {o : Opd} {v : V} (s : Step ι H ι' H') (q : OpdR G H ι o v) : OpdR G H' ι' o v := by
  cases o with
  | inl ws =>
    obtain ⟨D, vs, rfl, e, n, r⟩ := q
    refine ⟨D, vs, rfl, s.keep D _ e n, fun hm => ?_, r.mono s⟩
    obtain ⟨t, et, ht⟩ := s.ext
    rw [et] at hm
    rcases List.mem_append.mp hm with hm | hm
    · exact n hm
    · rw [ht D hm] at e; cases e
  | inr w => exact VR.mono s q
theorem dp_opd (r : Rel G h ι H) {o : Opd} {v : V} {d : PyData} (q : OpdR G H ι o v) (e : datO h o = some d) : DR G.K H v d := by
  cases o with
  | inl ws =>
    obtain ⟨D, vs, rfl, eD, n, hr⟩ := q
    unfold datO at e
    rw [Option.map_eq_some_iff] at e
    obtain ⟨ds, e1, rfl⟩ := e
    exact .lst (.of eD) (dp_all r _ hr e1)
  | inr w => exact dp_of r _ q e

/-! ### comparisons -/
def rCmp (K : PySem.W.Frag) : CmpOp → R2
  | .Eq => fun x y H Q => rEq x y H Q ∨ rEqD K x y H Q
  | .NotEq => fun x y H Q => rNe x y H Q ∨ rNeD K x y H Q
  | .Lt => rI0 fun i j => .bl (decide (i < j))
  | .LtE => rI0 fun i j => .bl (decide (i ≤ j))
  | .Gt => rI0 fun i j => .bl (decide (j < i))
  | .GtE => rI0 fun i j => .bl (decide (j ≤ i))
  | .Is => fun x y H Q => (y = .non ∧ Q (.bl (decide (x = .non))) H) ∨ rIsB x y H Q
  | .IsNot => fun x y H Q => (y = .non ∧ Q (.bl (!decide (x = .non))) H) ∨ rNotB x y H Q
  | .In => fun x y H Q => (∃ i j, x = .str i ∧ y = .str j ∧ Q (.bl (!(Builtin.Str.occurrences j i 0 j.length 1).isEmpty)) H) ∨ rIn K false x y H Q
  | .NotIn => fun x y H Q => (∃ i j, x = .str i ∧ y = .str j ∧ Q (.bl (!(!(Builtin.Str.occurrences j i 0 j.length 1).isEmpty))) H) ∨ rIn K true x y H Q
theorem op_cmp (hu : X.A.units + 64 < cLine) (hK : X.K = G.K) : ∀ op : CmpOp, OpR X (compareOp op) (rCmp G.K op) := by
  rw [← hK]
  intro op
  cases op with
  | Eq => exact op_eq.or (op_eqD hu)
  | NotEq => exact op_ne.or (op_neD hu)
  | Lt => exact op_lt
  | LtE => exact op_le
  | Gt => exact op_gt
  | GtE => exact op_ge
  | Is => exact op_isN.or op_isBl
  | IsNot => exact op_notN.or op_notBl
  | In => exact op_in_str.or op_in_seq
  | NotIn => exact op_notin_str.or op_notIn_seq
theorem scal_eq {x y : W} {u v : V} (hx : VR G H ι x u) (hy : VR G H ι y v) (c : scalW x y = true) : scal u v = true ∧ decide (u = v) = eqS x y := by
  cases hx <;> cases hy <;> first
    | exact absurd c Bool.false_ne_true
    | (refine ⟨rfl, ?_⟩; simp [eqS]; done)
    | (refine ⟨rfl, ?_⟩; simp only [eqS, V.int.injEq, V.bl.injEq, V.str.injEq]; first | rfl | simp)
theorem flat_of {x : W} {u : V} (hx : VR G H ι x u) (c : flatW x = true) : flatV u = true := by
  cases hx <;> first | rfl | exact absurd c Bool.false_ne_true
theorem eqF_of {x y : W} {u v : V} (hx : VR G H ι x u) (hy : VR G H ι y v) (c : flatW x = true) (d : flatW y = true) : eqV u v = eqF x y := by
  cases hx <;> cases hy <;> first | rfl | exact absurd c Bool.false_ne_true | exact absurd d Bool.false_ne_true
theorem flats_of : ∀ {ws : List W} {vs : List V}, VRs G H ι ws vs → ws.all flatW = true → vs.all flatV = true
  | _, _, .nil, _ => rfl
  | _, _, .cons h1 h2, c => by
    rw [List.all_cons, Bool.and_eq_true] at c ⊢
    exact ⟨flat_of h1 c.1, flats_of h2 c.2⟩
theorem inF_of {x : W} {u : V} (hx : VR G H ι x u) (cx : flatW x = true) : ∀ {ws : List W} {vs : List V}, VRs G H ι ws vs → ws.all flatW = true → inV u vs = ws.any fun z => eqF z x
  | _, _, .nil, _ => rfl
  | _, _, .cons h1 h2, c => by
    rw [List.all_cons, Bool.and_eq_true] at c
    unfold inV
    rw [List.any_cons, List.any_cons, eqF_of h1 hx c.1 cx]
    congr 1
    exact inF_of hx cx h2 c.2
/-- a list or a tuple -/
theorem seq_of (r : Rel G h ι H) {y : W} {v : V} {ws : List W} (hy : VR G H ι y v) (e : seqW h y = some ws) : ∃ a vs, v = .ref a ∧ (SqL G.K H a vs ∨ SqT G.K H a vs) ∧ VRs G H ι ws vs := by
  unfold seqW at e
  cases hy with
  | tup hs hr => cases e; exact ⟨_, _, rfl, .inr hs, hr⟩
  | slst hs hr => cases e; exact ⟨_, _, rfl, .inl hs.sql, hr⟩
  | ref ha =>
    dsimp only at e
    split at e
    · rename_i ws' eo
      cases e
      obtain ⟨vs, h1, h2⟩ := r.sql eo ha
      exact ⟨_, vs, rfl, .inl h1, h2⟩
    · cases e
  | _ => cases e
theorem in_opd (r : Rel G h ι H) {a b : Opd} {u v : V} {k : Bool} (ha : OpdR G H ι a u) (hb : OpdR G H ι b v) (e : inO h a b = some k) (neg : Bool) (q : Q (.bl (if neg then !k else k)) H) :
    (∃ i j, u = .str i ∧ v = .str j ∧ Q (.bl (if neg then !(!(Builtin.Str.occurrences j i 0 j.length 1).isEmpty) else !(Builtin.Str.occurrences j i 0 j.length 1).isEmpty)) H) ∨ rIn G.K neg u v H Q := by
  cases a with
  | inl ws => cases b <;> cases e
  | inr x =>
    have hx : VR G H ι x u := ha
    cases b with
    | inl ws =>
      obtain ⟨D, vs, rfl, eD, n, hr⟩ := hb
      unfold inO at e
      dsimp only at e
      split at e
      · rename_i c
        cases e
        rw [Bool.and_eq_true] at c
        refine .inr ⟨D, vs, rfl, .inl (.of eD), flat_of hx c.1, flats_of hr c.2, ?_⟩
        rw [inF_of hx c.1 hr c.2]
        exact q
      · cases e
    | inr y =>
      have hy : VR G H ι y v := hb
      have e' : inW h x y = some k := e
      unfold inW at e'
      split at e'
      · cases e'
        cases hx; cases hy
        exact .inl ⟨_, _, rfl, rfl, q⟩
      · split at e'
        · rename_i ws es
          split at e'
          · rename_i c
            cases e'
            rw [Bool.and_eq_true] at c
            obtain ⟨a, vs, rfl, hs, hr⟩ := seq_of r hy es
            refine .inr ⟨a, vs, rfl, hs, flat_of hx c.1, flats_of hr c.2, ?_⟩
            rw [inF_of hx c.1 hr c.2]
            exact q
          · cases e'
        · cases e'
theorem eq_opd (r : Rel G h ι H) {a b : Opd} {u v : V} {k : Bool} (ha : OpdR G H ι a u) (hb : OpdR G H ι b v) (e : eqO h a b = some k) :
    (scal u v = true ∧ decide (u = v) = k) ∨ ∃ d e, Dp G.K H u d ∧ Dp G.K H v e ∧ SeqAt.shaped d = true ∧ SeqAt.shaped e = true ∧ PyData.eqv d e = k := by
  have deep : (match datO h a, datO h b with
    | some d, some e => if (SeqAt.shaped d && SeqAt.shaped e) = true then some (PyData.eqv d e) else none
    | _, _ => none) = some k → ∃ d e, Dp G.K H u d ∧ Dp G.K H v e ∧ SeqAt.shaped d = true ∧ SeqAt.shaped e = true ∧ PyData.eqv d e = k := by
    intro e
    split at e
    · rename_i d1 d2 e1 e2
      split at e
      · rename_i c
        cases e
        rw [Bool.and_eq_true] at c
        exact ⟨d1, d2, (dp_opd r ha e1).dp (PyData.hasDict_of_canLay _ (SeqAt.canLay_of_shaped c.1)), (dp_opd r hb e2).dp (PyData.hasDict_of_canLay _ (SeqAt.canLay_of_shaped c.2)), c.1, c.2, rfl⟩
      · cases e
    · cases e
  cases a with
  | inl ws => exact .inr (deep e)
  | inr x =>
    cases b with
    | inl ws => exact .inr (deep e)
    | inr y =>
      have e' : eqW h x y = some k := e
      unfold eqW at e'
      split at e'
      · rename_i c
        cases e'
        exact .inl (scal_eq ha hb c)
      · exact .inr (deep e')
theorem cmp_sound {op : CmpOp} {a b : Opd} {u v : V} (ha : OpdR G H ι a u) (hb : OpdR G H ι b v) (r : Rel G h ι H) (p : Post G Wx σ ι H (cmpO op a b h) (Wants Q G)) : rCmp G.K op u v H Q := by
  have inrs : ∀ {op : CmpOp}, Post G Wx σ ι H (match a, b with
    | .inr x, .inr y => cmpW op x y h
    | _, _ => (.stuck : R W)) (Wants Q G) → ∃ x y, a = .inr x ∧ b = .inr y ∧ Post G Wx σ ι H (cmpW op x y h) (Wants Q G) := by
    intro op p
    cases a with
    | inl _ => exact False.elim p
    | inr x =>
      cases b with
      | inl _ => exact False.elim p
      | inr y => exact ⟨x, y, rfl, rfl, p⟩
  cases op with
  | Eq =>
    obtain ⟨k, e, q⟩ := oB_ok (show Post G Wx σ ι H (oB (eqO h a b) h) (Wants Q G) from p) r
    rcases eq_opd r ha hb e with ⟨c, e2⟩ | ⟨d, e, h1, h2, h3, h4, h5⟩
    · exact .inl ⟨c, by rw [e2]; exact q⟩
    · exact .inr ⟨d, e, h1, h2, h3, h4, by rw [h5]; exact q⟩
  | NotEq =>
    obtain ⟨k, e, q⟩ := oB_ok (show Post G Wx σ ι H (oB ((eqO h a b).map (!·)) h) (Wants Q G) from p) r
    rw [Option.map_eq_some_iff] at e
    obtain ⟨k, e, rfl⟩ := e
    rcases eq_opd r ha hb e with ⟨c, e2⟩ | ⟨d, e, h1, h2, h3, h4, h5⟩
    · exact .inl ⟨c, by rw [e2]; exact q⟩
    · exact .inr ⟨d, e, h1, h2, h3, h4, by rw [h5]; exact q⟩
  | In =>
    obtain ⟨k, e, q⟩ := oB_ok (show Post G Wx σ ι H (oB (inO h a b) h) (Wants Q G) from p) r
    exact in_opd r ha hb e false q
  | NotIn =>
    obtain ⟨k, e, q⟩ := oB_ok (show Post G Wx σ ι H (oB ((inO h a b).map (!·)) h) (Wants Q G) from p) r
    rw [Option.map_eq_some_iff] at e
    obtain ⟨k, e, rfl⟩ := e
    exact in_opd r ha hb e true q
  | Is =>
    obtain ⟨x, y, rfl, rfl, p⟩ := inrs (op := .Is) p
    obtain ⟨k, e, q⟩ := oB_ok (show Post G Wx σ ι H (oB (isW x y) h) (Wants Q G) from p) r
    unfold isW at e
    have hx : VR G H ι x u := ha
    have hy : VR G H ι y v := hb
    split at e
    · cases hy
      cases e
      refine .inl ⟨rfl, ?_⟩
      cases hx <;> exact q
    · cases hy
      split at e
      · cases hx
        cases e
        exact .inr ⟨_, _, rfl, rfl, q⟩
      · cases e
    · cases e
  | IsNot =>
    obtain ⟨x, y, rfl, rfl, p⟩ := inrs (op := .IsNot) p
    obtain ⟨k, e, q⟩ := oB_ok (show Post G Wx σ ι H (oB ((isW x y).map (!·)) h) (Wants Q G) from p) r
    rw [Option.map_eq_some_iff] at e
    obtain ⟨k, e, rfl⟩ := e
    unfold isW at e
    have hx : VR G H ι x u := ha
    have hy : VR G H ι y v := hb
    split at e
    · cases hy
      cases e
      refine .inl ⟨rfl, ?_⟩
      cases hx <;> exact q
    · cases hy
      split at e
      · cases hx
        cases e
        exact .inr ⟨_, _, rfl, rfl, q⟩
      · cases e
    · cases e
  | Lt =>
    obtain ⟨x, y, rfl, rfl, p⟩ := inrs (op := .Lt) p
    have hx : VR G H ι x u := ha
    have hy : VR G H ι y v := hb
    cases hx <;> cases hy <;> first | exact False.elim p | exact ⟨_, _, rfl, rfl, Wants.bl p r⟩
  | LtE =>
    obtain ⟨x, y, rfl, rfl, p⟩ := inrs (op := .LtE) p
    have hx : VR G H ι x u := ha
    have hy : VR G H ι y v := hb
    cases hx <;> cases hy <;> first | exact False.elim p | exact ⟨_, _, rfl, rfl, Wants.bl p r⟩
  | Gt =>
    obtain ⟨x, y, rfl, rfl, p⟩ := inrs (op := .Gt) p
    have hx : VR G H ι x u := ha
    have hy : VR G H ι y v := hb
    cases hx <;> cases hy <;> first | exact False.elim p | exact ⟨_, _, rfl, rfl, Wants.bl p r⟩
  | GtE =>
    obtain ⟨x, y, rfl, rfl, p⟩ := inrs (op := .GtE) p
    have hx : VR G H ι x u := ha
    have hy : VR G H ι y v := hb
    cases hx <;> cases hy <;> first | exact False.elim p | exact ⟨_, _, rfl, rfl, Wants.bl p r⟩
end
end MP
set_option maxRecDepth 100000
set_option maxHeartbeats 4000000
namespace MP
open PySem PySem.Spec PyProof.Rows L2

/-! ### looks at the text's trees -/
def notStar : Expr → Bool | .Starred _ _ => false | _ => true
def notSlice : Expr → Bool | .Slice _ _ _ _ => false | _ => true
def notSup : Expr → Bool | .Call (.Name _ _) [] [] _ => false | _ => true
def notSet : Expr → Bool | .Set _ _ _ => false | _ => true
def plT : Expr → Bool | .UnaryOp .Not _ _ => false | .BoolOp _ _ _ => false | .IfExp _ _ _ _ => false | .Compare _ _ _ _ => false | _ => true
theorem star_ok {e : Expr} {es : List Expr} {env : Env} (h : notStar e = true) : starEach (e :: es) env = (false, eval e env) :: starEach es env := by
  cases e <;> first | rfl | exact absurd h Bool.false_ne_true
theorem stars_ok {pos : Pos} {env : Env} : ∀ {es : List Expr}, es.all notStar = true → (backTo pos (starEach es env)).any (·.1) = false
  | [], _ => rfl
  | e :: es, h => by
    rw [List.all_cons, Bool.and_eq_true] at h
    rw [star_ok h.1]
    show (false || (backTo pos (starEach es env)).any (·.1)) = false
    rw [stars_ok h.2]
    rfl
theorem stars_all {pos : Pos} {env : Env} : ∀ {es : List Expr}, es.all notStar = true → (backTo pos (starEach es env)).all (fun x => !x.1) = true
  | [], _ => rfl
  | e :: es, h => by
    rw [List.all_cons, Bool.and_eq_true] at h
    rw [star_ok h.1]
    show (true && (backTo pos (starEach es env)).all (fun x => !x.1)) = true
    rw [stars_all h.2]
    rfl
theorem slice_ok {b : Expr} (h : notSlice b = true) : PlainIx b := by
  intro o i
  cases b <;> first | rfl | exact absurd h Bool.false_ne_true
theorem sup_ok {o : Expr} {f : Str} {env : Env} (h : notSup o = true) : attributeBase o f env (eval o env) = eval o env := by
  cases o with
  | Call fn as ks p =>
    cases fn with
    | Name id q =>
      cases as with
      | nil =>
        cases ks with
        | nil => exact absurd h Bool.false_ne_true
        | cons _ _ => rfl
      | cons _ _ => rfl
    | _ => rfl
  | _ => rfl
theorem set_ok {b : Expr} {op : CmpOp} (h : notSet b = true) : behindInMarks op b = false := by
  cases b <;> first | rfl | exact absurd h Bool.false_ne_true
theorem fold_ok {b : Expr} {env : Env} (h : notSet b = true) : ∀ x, foldedSetIterable b env x = pure x := by
  intro x
  cases b <;> first | rfl | exact absurd h Bool.false_ne_true
theorem plT_ok {e : Expr} {env : Env} (h : plT e = true) : ∀ whole, isTrue e env whole = (do let v ← whole; standAt e.pos; holding [v] (truthy v)) := by
  intro whole
  cases e with
  | UnaryOp op a p => cases op <;> first | rfl | exact absurd h Bool.false_ne_true
  | BoolOp => exact absurd h Bool.false_ne_true
  | IfExp => exact absurd h Bool.false_ne_true
  | Compare => exact absurd h Bool.false_ne_true
  | _ => rfl

/-! ### the names at hand -/
structure Ctx where
  N : List Str
  names : List (Str × NameKind)
  /-- where names may be stored -/
  sets : List (Str × NameKind)
  /-- the text's own defs -/
  fs : List Str
  /-- the text's own exceptions, each with its field -/
  exs : List (Str × Str) := []
  /-- the text's own classes -/
  cls : List Str := []
structure Gx (G : Pg) (lvl : Nat) (c : Ctx) (X : Cx) : Prop where
  prog : X.prog = G.P
  w : X.w = G.w
  K : X.K = G.K
  mg : X.mg = G.mg
  base : X.base = G.base
  N : X.N = c.N
  nd : c.N.Nodup
  nm : X.env.scope.names = c.names
  kd : X.env.scope.kind = .function
  st : ∀ x, (c.sets.lookup x = some .local ∨ c.sets.lookup x = some .cell) → Loc X.env.scope x ∧ (X.fn x = true ∨ X.env.scope.names.lookup x = some .local)
  calm : X.calm = true
  room : Room lvl X.A
  gd : X.A.guards = some []
def visB (c : Ctx) (x : Str) : Bool := match c.names.lookup x with
  | some .local => true | some .cell => true | some .free => true
  | _ => false
def glB (c : Ctx) (x : Str) : Bool := match c.names.lookup x with
  | some .globalImplicit => true
  | _ => false
def setB (c : Ctx) (x : Str) : Bool := match c.sets.lookup x with
  | some .local => true | some .cell => true
  | _ => false
def debB (x : Str) : Bool := !(x == ("__debug__" : Str)) && !(x == ("__classdict__" : Str))
section
variable {G : Pg} {lvl : Nat} {c : Ctx} {X : Cx} {x : Str}
theorem Gx.vis (g : Gx G lvl c X) (h : visB c x = true) : Vis X.env.scope x := by
  unfold visB at h
  unfold Vis
  rw [g.nm]
  split at h
  · exact .inl (by assumption)
  · exact .inr (.inl (by assumption))
  · exact .inr (.inr (by assumption))
  · exact absurd h Bool.false_ne_true
theorem Gx.gl (g : Gx G lvl c X) (h : glB c x = true) : Gl X x := by
  unfold glB at h
  show X.env.scope.names.lookup x = _
  rw [g.nm]
  split at h
  · assumption
  · exact absurd h Bool.false_ne_true
theorem Gx.set (g : Gx G lvl c X) (h : setB c x = true) : Loc X.env.scope x ∧ (X.fn x = true ∨ X.env.scope.names.lookup x = some .local) := by
  unfold setB at h
  split at h
  · exact g.st x (.inl (by assumption))
  · exact g.st x (.inr (by assumption))
  · exact absurd h Bool.false_ne_true
theorem deb_of (h : debB x = true) : (x == ("__debug__" : Str)) = false := by
  unfold debB at h
  rw [Bool.and_eq_true] at h
  simpa using h.1
theorem cd_of (h : debB x = true) : (x == ("__classdict__" : Str)) = false := by
  unfold debB at h
  rw [Bool.and_eq_true] at h
  simpa using h.2
theorem Gx.hu (g : Gx G lvl c X) : X.A.units + 64 < cLine := g.room.units
end

/-! ### what the module gives -/
def bltNames : List Str := ["len", "repr", "abs", "max", "min", "all", "any", "sum", "tuple", "list", "range", "zip", "enumerate", "isinstance", "int", "bool", "str", "dict", "sorted", "set", "reversed"]
def tyNames : List String := ["int", "bool", "str", "list", "tuple", "dict"]
/-- what a call promises: the small run's own end -/
def spI (G : Pg) (m : List W → List O → R W) (n : Nat) : Sp := fun vs H Q E => vs.length = n ∧ ∃ ι h ws, Rel G h ι H ∧ VRs G H ι ws vs ∧
  Post G (fun cls d _ H => E cls d H) [] ι H (m ws h) (Wants Q G)
/-- a def keeps a promise, where no repr is under way -/
structure FnG (G : Pg) (k : Nat) (f : Addr) (fd : FuncData) (ps : List Str) (sp : Sp) : Prop where
  len : ∀ vs H Q E, sp vs H Q E → vs.length = ps.length
  run : ∀ (A : Around) (outer : List Env) (s : Shared) (H : Hp) (args : Args) (us : List Value) (vs : List V) (Q : VK) (E : XK), Room k A → A.guards = some [] → Env0 G.P G.w G.K G.mg G.base A outer s H →
    BindsTo s fd args (ps.zip us) → Vals vs us → sp vs H Q E → codeAny (model G.P G.w) A (.call (.ref f) args) (CR (L2.CX G.P G.w) outer G.P G.w H s Q E) s
/-- how a call with n values and keywords binds -/
structure Frm (G : Pg) (fd : FuncData) (ps : List Str) (n : Nat) (ks : List Str) (ar : List Ar) : Prop where
  ex : ∃ g gV, KBn G.K fd ps n ks g gV ∧ ∀ (H : Hp) (ι : List Addr) (ws : List W) (vs zs : List V), vs.length = n → zs.length = ks.length → VRs G H ι ws (vs ++ zs) → VRs G H ι (arr ws ar) (gV vs zs)
/-- a def at fa, called so -/
structure Tgt (G : Pg) (lvl : Nat) (call : List W → List O → R W) (f : Str) (n : Nat) (ks : List Str) (ar : List Ar) : Prop where
  ex : ∃ fa fd ps, G.adr f = some fa ∧ PySem.W.keepIn G.K (.ref fa) = true ∧ Frm G fd ps n ks ar ∧ FnG G lvl fa fd ps (spI G call ps.length) ∧ ∀ ws h, ws.length ≠ ps.length → call ws h = .stuck
/-- instances of a class, looked at by isinstance -/
structure InsC (K : PySem.W.Frag) (C : Addr) : Prop where
  cl : Cls K C
  ha : PySem.W.findIn K (.ref C) "__class__" = some (some (.builtin "object.__class__"))
  hn : PySem.W.specialIn K (.builtin "object.__class__") "__get__" = some (some (.builtin "getset_descriptor.__get__"))
  htk : PySem.W.takesIn K (.builtin "object.__class__") = some true
  hm : PySem.W.mroIn K C (.type "object") = some true
  kit : ∀ T ∈ tyNames, PySem.W.kitOne K (.ref C) (.type T) = some false
structure Fc (G : Pg) (C : Cn) (lvl : Nat) (fs : List Str) : Prop where
  frm : ∀ f n ks ar, C.frm f n ks = some ar → Tgt G lvl (C.call f) f n ks ar
  ini : ∀ f n ks ar, C.frm f n ks = some ar → ∃ l, l + 1 ≤ lvl ∧ Tgt G l (C.ini f) f n ks ar
  knm : ∀ f, C.kn f = true → ∃ fa, G.adr f = some fa ∧ G.mg f = some (.ref fa) ∧ PySem.W.keepIn G.K (.ref fa) = true
  att : ∀ c f, C.att c f = true → ∀ Ca, G.cls c = some Ca → Cls G.K Ca ∧ NoAttr G.K Ca f
  met : ∀ c m g, C.met c m = some g → ∀ Ca, G.cls c = some Ca → ∃ fa, G.adr g = some fa ∧ Cls G.K Ca ∧ Meth G.K Ca m fa
  isn : ∀ c, C.isn c = true → ∀ Ca, G.cls c = some Ca → InsC G.K Ca
  isk : ∀ c, C.isk c = true → ∃ Ca, G.cls c = some Ca ∧ G.mg c = some (.ref Ca) ∧ ∀ t ∈ ["NoneType", "bool", "int", "str", "tuple", "list", "dict"], PySem.W.kitOne G.K (.type t) (.ref Ca) = some false
  sub : ∀ c k b, C.sub c k = some b → ∀ Ca Ka, G.cls c = some Ca → G.cls k = some Ka → InsC G.K Ca ∧ PySem.W.kitOne G.K (.ref Ca) (.ref Ka) = some b
  prp : ∀ c m g, C.prp c m = some g → ∀ Ca, G.cls c = some Ca → ∃ fa p, G.adr g = some fa ∧ Cls G.K Ca ∧ PropOf G.K Ca m p fa
  inn : ∀ c g, C.inn c = some g → ∃ Ca fa, G.cls c = some Ca ∧ G.mg c = some (.ref Ca) ∧ G.adr g = some fa ∧ Mk G.K Ca fa
  blt : ∀ x ∈ bltNames, G.mg x = none
  glob : ∀ x w, C.gl x = some w → ∃ u v, G.mg x = some u ∧ RelV v u ∧ ∀ ι H, (∃ r, ι = G.i0 ++ r) → VR G H ι w v
  call : ∀ f ∈ fs, ∃ fa fd ps, G.mg f = some (.ref fa) ∧ PySem.W.keepIn G.K (.ref fa) = true ∧ Binds G.K fd ps [] ∧ FnG G lvl fa fd ps (spI G (C.call f) ps.length) ∧
    ∀ ws h, ws.length ≠ ps.length → C.call f ws h = .stuck

/-! ### what is shown of each expression -/
/-- an operand -/
def tO (G : Pg) (Wx : WX) (m : Lo → List O → R Opd) : TE := fun σ H Q => ∃ ι h ℓ, Rel G h ι H ∧ LR G H ι ℓ σ ∧ Post G Wx σ ι H (m ℓ h) fun o _ ι' H' => ∀ v, OpdR G H' ι' o v → Q v H'
/-- a list or a tuple -/
def tS (G : Pg) (Wx : WX) (m : Lo → List O → R (List W)) : TE := fun σ H Q => ∃ ι h ℓ, Rel G h ι H ∧ LR G H ι ℓ σ ∧
  Post G Wx σ ι H (m ℓ h) fun ws _ ι' H' => ∀ a vs, (SqL G.K H' a vs ∨ SqT G.K H' a vs) → VRs G H' ι' ws vs → Q (.ref a) H'
structure OkE (G : Pg) (Wx : WX) (X : Cx) (s : Sm) (e : Expr) : Prop where
  v : PE X e (tV G Wx s.v)
  t : PT X e (tT G Wx s.t)
  l : s.e = true → PE X e (tL G Wx s.l)
  sl : s.e = false → ∀ ℓ h, s.l ℓ h = (s.v ℓ h).bind fun w h => seqR h w
section
variable {G : Pg} {lvl : Nat} {c : Ctx} {X : Cx} {Wx : WX} {C : Cn} {a b e : Expr} {es : List Expr} {pos : Pos}
/-- where a run begins -/
theorem tV.run {m : Lo → List O → R W} {σ : L2.St} {H : Hp} {Q : VK} (h : tV G Wx m σ H Q) : ∃ ι h ℓ, Rel G h ι H ∧ LR G H ι ℓ σ ∧ Post G Wx σ ι H (m ℓ h) (Wants Q G) := h
theorem tru_sound {ι : List Addr} {H : Hp} {h : List O} {w : W} {v : V} {k : Bool} (r : Rel G h ι H) (hv : VR G H ι w v) (e : truW h w = some k) : TruV G.K v H k := by
  cases hv with
  | non => cases e; rfl
  | bl b => cases e; rfl
  | int i => cases e; rfl
  | str x =>
    dsimp only [truW] at e
    split at e
    · cases e
      exact ⟨by assumption, rfl⟩
    · cases e
  | tup hs hr =>
    cases e
    refine .inr (.inl ⟨_, hs, ?_⟩)
    cases hr <;> rfl
  | slst hs hr =>
    cases e
    refine .inl ⟨_, hs.sql, ?_⟩
    cases hr <;> rfl
  | ref ha =>
    dsimp only [truW] at e
    split at e
    · rename_i ws eo
      cases e
      obtain ⟨vs, h1, h2⟩ := r.sql eo ha
      refine .inl ⟨vs, h1, ?_⟩
      cases h2 <;> rfl
    · rename_i ws eo
      cases e
      obtain ⟨m, h1, h2⟩ := r.obj _ _ _ eo ha
      refine .inr (.inr ⟨m, h1, ?_⟩)
      cases h2 <;> rfl
    · cases e
  | sdct hs hr => cases e
theorem truR_ok {ι : List Addr} {H : Hp} {h : List O} {w : W} {v : V} {σ : L2.St} {k : Bool → List O → List Addr → Hp → Prop} (r : Rel G h ι H) (hv : VR G H ι w v) (p : Post G Wx σ ι H (truR h w) k) : ∃ b, TruV G.K v H b ∧ k b h ι H := by
  unfold truR at p
  split at p
  · exact ⟨_, tru_sound r hv (by assumption), p.ok r⟩
  · exact False.elim p
/-- a value's truth as a test -/
theorem PT.ofV {m : Lo → List O → R W} (g : Gx G lvl c X) (h : PE X e (tV G Wx m)) (he : plT e = true) : PT X e (tT G Wx fun ℓ h => (m ℓ h).bind fun w h => truR h w) := by
  refine PT.imp (pt_truth h (plT_ok he)) fun σ H Q ⟨ι, hh, ℓ, r, lr, p⟩ => ?_
  refine ⟨ι, hh, ℓ, r, lr, p.bind.imp fun w h1 ι1 H1 s1 r1 p1 v hv => ?_⟩
  obtain ⟨b, h1, h2⟩ := truR_ok r1 hv p1
  rw [g.K]
  exact ⟨b, h1, h2⟩
/-- a plain value -/
theorem OkE.ofV {v : Lo → List O → R W} (g : Gx G lvl c X) (h : PE X e (tV G Wx v)) (he : plT e = true) : OkE G Wx X (smV v) e :=
  ⟨h, PT.ofV g h he, fun z => absurd z Bool.false_ne_true, fun _ _ _ => rfl⟩
/-- a new list, read as a value -/
theorem tL_of {l : Lo → List O → R (List W)} {σ : L2.St} {H : Hp} {Q : VK} (hv : tV G Wx (fun ℓ h => (l ℓ h).bind fun ws h => alloc (.lst ws) h) σ H Q) : tL G Wx l σ H Q := by
  obtain ⟨ι, hh, ℓ, r, lr, p⟩ := hv
  refine ⟨ι, hh, ℓ, r, lr, ?_⟩
  have p : Post G Wx σ ι H ((l ℓ hh).bind fun ws h => alloc (.lst ws) h) (Wants Q G) := p
  revert p
  cases l ℓ hh with
  | stuck => exact fun p => p
  | exc x h' => exact fun p => p
  | ok ws h' =>
    intro p ι' H' s q D vs hD nD eD hr
    have s2 : Step ι H (ι' ++ [D]) H' := by
      obtain ⟨t, et, ht⟩ := s.ext
      refine ⟨⟨t ++ [D], by rw [et, List.append_assoc], fun a ha => ?_⟩, s.keep, s.there, s.fix⟩
      rcases List.mem_append.mp ha with ha | ha
      · exact ht a ha
      · rw [List.mem_singleton.mp ha]; exact hD
    have mono : VRs G H' (ι' ++ [D]) ws vs := by
      exact VRs.mon mon_app hr
    have q2 : Rel G (h' ++ [.lst ws]) (ι' ++ [D]) H' := q.alloc nD ⟨vs, eD, mono⟩ .refl
    have p2 : Post G Wx σ ι H (.ok (.ref h'.length) (h' ++ [.lst ws])) (Wants Q G) := p
    refine p2 _ H' s2 q2 _ (.ref ?_)
    rw [List.getElem?_append_right (by rw [q.len]; exact Nat.le_refl _), q.len, Nat.sub_self]
    rfl
theorem PE.ofL {l : Lo → List O → R (List W)} (h : PE X e (tL G Wx l)) : PE X e (tV G Wx fun ℓ h => (l ℓ h).bind fun ws h => alloc (.lst ws) h) := PE.imp h fun σ H Q q => tL_of q
theorem OkE.ofL {l : Lo → List O → R (List W)} (g : Gx G lvl c X) (h : PE X e (tL G Wx l)) (he : plT e = true) : OkE G Wx X (smL l) e := by
  refine ⟨PE.ofL h, ?_, fun _ => h, fun z => absurd z.symm Bool.false_ne_true⟩
  refine PT.imp (pt_truth h (plT_ok he)) fun σ H Q ⟨ι, hh, ℓ, r, lr, p⟩ => ?_
  refine ⟨ι, hh, ℓ, r, lr, p.bind.imp fun ws h1 ι1 H1 s1 r1 p1 D vs hD nD eD hr => ⟨!ws.isEmpty, .inl ⟨vs, .of eD, ?_⟩, p1.ok r1⟩⟩
  cases hr <;> rfl
/-- as an operand -/
theorem OkE.o {s : Sm} (h : OkE G Wx X s e) : PE X e (tO G Wx s.opd) := by
  cases hs : s.e with
  | true =>
    refine PE.imp (h.l hs) fun σ H Q ⟨ι, hh, ℓ, r, lr, p⟩ => ⟨ι, hh, ℓ, r, lr, ?_⟩
    unfold Sm.opd at p
    rw [hs, if_pos rfl] at p
    refine p.bind.imp fun ws h1 ι1 H1 s1 r1 p1 D vs hD nD eD hr => ?_
    exact p1.ok r1 _ ⟨D, vs, rfl, eD, nD, hr⟩
  | false =>
    refine PE.imp h.v fun σ H Q ⟨ι, hh, ℓ, r, lr, p⟩ => ⟨ι, hh, ℓ, r, lr, ?_⟩
    unfold Sm.opd at p
    rw [hs, if_neg Bool.false_ne_true] at p
    exact p.bind.imp fun w h1 ι1 H1 s1 r1 p1 v hv => p1.ok r1 _ hv
/-- as a list or a tuple -/
theorem OkE.s {s : Sm} (h : OkE G Wx X s e) : PE X e (tS G Wx s.l) := by
  cases hs : s.e with
  | true =>
    refine PE.imp (h.l hs) fun σ H Q ⟨ι, hh, ℓ, r, lr, p⟩ => ⟨ι, hh, ℓ, r, lr, p.imp fun ws h1 ι1 H1 s1 r1 p1 D vs hD nD eD hr => p1 D vs (.inl (.of eD)) hr⟩
  | false =>
    refine PE.imp h.v fun σ H Q ⟨ι, hh, ℓ, r, lr, p⟩ => ⟨ι, hh, ℓ, r, lr, ?_⟩
    rw [h.sl hs] at p
    refine p.bind.imp fun w h1 ι1 H1 s1 r1 p1 v hv => ?_
    unfold seqR at p1
    split at p1
    · obtain ⟨a, vs, rfl, h2, h3⟩ := seq_of r1 hv (by assumption)
      exact p1.ok r1 a vs h2 h3
    · exact False.elim p1

/-! ### constants and names -/
theorem e_const {w : W} {v : V} (he : PE X e (tC v)) (hv : ∀ H ι, VR G H ι w v) : PE X e (tV G Wx fun _ h => .ok w h) :=
  PE.imp he fun σ H Q ⟨ι, hh, ℓ, r, lr, p⟩ => p.ok r _ (hv H ι)
theorem e_var {i : Nat} {x : Str} (g : Gx G lvl c X) (hN : c.N[i]? = some x) (hv : visB c x = true) (hd : debB x = true) : PE X (.Name x pos) (tV G Wx fun ℓ h => ofO (getL ℓ i) h) := by
  refine PE.imp (pe_var (i := i) (by rw [g.N]; exact hN) (g.vis hv) (deb_of hd) (cd_of hd)) fun σ H Q ⟨ι, hh, ℓ, r, lr, p⟩ => ?_
  have p : Post G Wx σ ι H (ofO (getL ℓ i) hh) (Wants Q G) := p
  cases eo : getL ℓ i with
  | none => rw [eo] at p; exact False.elim p
  | some w =>
    rw [eo] at p
    obtain ⟨v, h1, h2⟩ := lr.at_ i w eo
    exact ⟨v, h1, p.ok r _ h2⟩
theorem e_glob {x : Str} (F : Fc G C lvl c.fs) (g : Gx G lvl c X) (hv : glB c x = true) (hd : debB x = true) : PE X (.Name x pos) (tV G Wx fun _ h => ofO (C.gl x) h) := by
  cases eo : C.gl x with
  | none => exact ⟨fun pins s σ H Q I ⟨ι, hh, ℓ, r, lr, p⟩ => False.elim p⟩
  | some w =>
    obtain ⟨u, v, h1, h2, h3⟩ := F.glob x w eo
    exact PE.imp (pe_glob (g.gl hv) (by rw [g.mg]; exact h1) h2 (deb_of hd)) fun σ H Q ⟨ι, hh, ℓ, r, lr, p⟩ => p.ok r _ (h3 ι H r.pre)

/-! ### arguments -/
theorem a_nil : PA X [] (tA G Wx fun _ h => .ok [] h) := PA.imp pa_nil fun σ H Q ⟨ι, hh, ℓ, r, lr, p⟩ => p.ok r _ .nil
theorem a_cons {m : Lo → List O → R W} {ms : Lo → List O → R (List W)} (ha : PE X e (tV G Wx m)) (hr : PA X es (tA G Wx ms)) (hs : notStar e = true) :
    PA X (e :: es) (tA G Wx fun ℓ h => (m ℓ h).bind fun w h => (ms ℓ h).bind fun ws h => .ok (w :: ws) h) := by
  refine PA.imp (pa_cons ha hr (star_ok hs)) fun σ H Q ⟨ι, hh, ℓ, r, lr, p⟩ => ?_
  refine ⟨ι, hh, ℓ, r, lr, p.bind.imp fun w h1 ι1 H1 s1 r1 p1 v hv => ?_⟩
  refine ⟨ι1, h1, ℓ, r1, lr.mono s1, p1.bind.imp fun ws h2 ι2 H2 s2 r2 p2 vs hvs => ?_⟩
  exact p2.ok r2 _ (.cons (hv.mono s2) hvs)
/-- one argument, by any reading -/
theorem a_one {t : TE} (ha : PE X e t) (hs : notStar e = true) : PA X [e] (tCons t tNil) := pa_cons ha pa_nil (star_ok hs)

/-! ### displays -/
theorem e_tup {ms : Lo → List O → R (List W)} {k : Nat} (ha : PA X es (tA G Wx ms)) : PE X (.Tuple es k pos) (tV G Wx fun ℓ h => (ms ℓ h).bind fun ws h => chk (decide (ws.length ≤ sizeLine)) (.ok (.tup ws) h)) := by
  refine PE.imp (pe_tup ha) fun σ H Q ⟨ι, hh, ℓ, r, lr, p⟩ => ?_
  refine ⟨ι, hh, ℓ, r, lr, p.bind.imp fun ws h1 ι1 H1 s1 r1 p1 vs hvs => ?_⟩
  obtain ⟨cz, p1⟩ := p1.chk
  refine ⟨by rw [← hvs.length]; exact of_decide_eq_true cz, fun q hq => ?_⟩
  have s : Step ι1 H1 ι1 (upd H1 q (.tup vs)) := Step.new hq
  exact p1 ι1 _ s (r1.new hq) _ (.tup (.of upd_same) (hvs.mono s))
theorem e_lst {ms : Lo → List O → R (List W)} (ha : PA X es (tA G Wx ms)) : PE X (.List es pos) (tL G Wx fun ℓ h => (ms ℓ h).bind fun ws h => chk (decide (ws.length ≤ sizeLine)) (.ok ws h)) := by
  refine PE.imp (pe_lst ha) fun σ H Q ⟨ι, hh, ℓ, r, lr, p⟩ => ?_
  refine ⟨ι, hh, ℓ, r, lr, p.bind.imp fun ws h1 ι1 H1 s1 r1 p1 vs hvs => ?_⟩
  obtain ⟨cz, p1⟩ := p1.chk
  refine ⟨by rw [← hvs.length]; exact of_decide_eq_true cz, fun q hq => ?_⟩
  have s : Step ι1 H1 ι1 (upd H1 q (.lst vs)) := Step.new hq
  exact p1 ι1 _ s (r1.new hq) q vs (s1.back hq) (r1.fresh hq) upd_same (hvs.mono s)
end
end MP
set_option maxRecDepth 100000
set_option maxHeartbeats 4000000
namespace MP
open PySem PySem.Spec PyProof.Rows L2
section
variable {G : Pg} {lvl : Nat} {c : Ctx} {X : Cx} {Wx : WX} {C : Cn} {a b d e : Expr} {es : List Expr} {pos : Pos} {sa sb sc : Sm}

/-! ### operators -/
theorem e_bin {op : Operator} {ma mb : Lo → List O → R W} (g : Gx G lvl c X) (ha : PE X a (tV G Wx ma)) (hb : PE X b (tV G Wx mb)) :
    PE X (.BinOp a op b pos) (tV G Wx fun ℓ h => (ma ℓ h).bind fun x h => (mb ℓ h).bind fun y h => binW op x y h) := by
  refine PE.imp (pe_op (op_bin op) ha hb) fun σ H Q ⟨ι, hh, ℓ, r, lr, p⟩ => ?_
  refine ⟨ι, hh, ℓ, r, lr, p.bind.imp fun x h1 ι1 H1 s1 r1 p1 u hu => ?_⟩
  refine ⟨ι1, h1, ℓ, r1, lr.mono s1, p1.bind.imp fun y h2 ι2 H2 s2 r2 p2 v hv => ?_⟩
  rw [g.K]
  exact bin_sound (hu.mono s2) hv r2 p2
theorem e_neg {ma : Lo → List O → R W} (ha : PE X a (tV G Wx ma)) :
    PE X (.UnaryOp .USub a pos) (tV G Wx fun ℓ h => (ma ℓ h).bind fun x h => match x with | .int i => .ok (.int (-i)) h | _ => .stuck) := by
  refine PE.imp (pe_un un_neg ha) fun σ H Q ⟨ι, hh, ℓ, r, lr, p⟩ => ?_
  refine ⟨ι, hh, ℓ, r, lr, p.bind.imp fun x h1 ι1 H1 s1 r1 p1 u hu => ?_⟩
  cases hu <;> first
    | exact False.elim p1
    | exact ⟨_, rfl, Wants.int p1 r1⟩
theorem e_not (g : Gx G lvl c X) (ha : OkE G Wx X sa a) :
    OkE G Wx X { smV (fun ℓ h => (sa.v ℓ h).bind fun w h => (truR h w).bind fun b h => .ok (.bl (!b)) h) with t := fun ℓ h => (sa.t ℓ h).bind fun b h => .ok (!b) h } (.UnaryOp .Not a pos) := by
  refine ⟨?_, ?_, fun z => absurd z Bool.false_ne_true, fun _ _ _ => rfl⟩
  · refine PE.imp (pe_notT ha.v) fun σ H Q ⟨ι, hh, ℓ, r, lr, p⟩ => ?_
    refine ⟨ι, hh, ℓ, r, lr, p.bind.imp fun x h1 ι1 H1 s1 r1 p1 u hu => ?_⟩
    obtain ⟨k, h2, h3⟩ := truR_ok r1 hu p1.bind
    rw [g.K]
    exact ⟨k, h2, Wants.bl h3 r1⟩
  · refine PT.imp (pt_not ha.t) fun σ H Q ⟨ι, hh, ℓ, r, lr, p⟩ => ?_
    exact ⟨ι, hh, ℓ, r, lr, p.bind.imp fun x h1 ι1 H1 s1 r1 p1 => p1.ok r1⟩

/-! ### and, or -/
structure OkB (G : Pg) (Wx : WX) (X : Cx) (s : Sm) (e : Expr) : Prop where
  v : PE X e (tV G Wx s.v)
  t : PW X e (tT G Wx s.t)
theorem b_one {op : BoolOp} (ha : OkE G Wx X sa a) : OkB G Wx X sa (.BoolOp op [a] pos) :=
  ⟨pe_one ha.v, by cases op with | And => exact pw_and1 ha.t | Or => exact pw_or1 ha.t⟩
def boolSm (op : BoolOp) (sa sb : Sm) : Sm := { smV (fun ℓ h => (sa.v ℓ h).bind fun w h => (truR h w).bind fun k h => match op with
      | .And => if k = true then sb.v ℓ h else .ok w h
      | .Or => if k = true then .ok w h else sb.v ℓ h) with
    t := fun ℓ h => (sa.t ℓ h).bind fun k h => match op with
      | .And => if k = true then sb.t ℓ h else .ok false h
      | .Or => if k = true then .ok true h else sb.t ℓ h }
theorem b_more {op : BoolOp} (g : Gx G lvl c X) (ha : OkE G Wx X sa a) (hb : OkB G Wx X sb (.BoolOp op (b :: es) pos)) : OkB G Wx X (boolSm op sa sb) (.BoolOp op (a :: b :: es) pos) := by
  cases op with
  | And =>
    refine ⟨?_, ?_⟩
    · refine PE.imp (pe_andT ha.v hb.v) fun σ H Q ⟨ι, hh, ℓ, r, lr, p⟩ => ?_
      refine ⟨ι, hh, ℓ, r, lr, p.bind.imp fun x h1 ι1 H1 s1 r1 p1 u hu => ?_⟩
      obtain ⟨k, h2, h3⟩ := truR_ok r1 hu p1.bind
      rw [g.K]
      refine ⟨k, h2, ?_⟩
      cases k with
      | true => exact iteT ⟨ι1, h1, ℓ, r1, lr.mono s1, h3⟩
      | false => exact iteF (h3.ok r1 _ hu)
    · refine PW.imp (pw_and ha.t hb.t) fun σ H Q ⟨ι, hh, ℓ, r, lr, p⟩ => ?_
      refine ⟨ι, hh, ℓ, r, lr, p.bind.imp fun k h1 ι1 H1 s1 r1 p1 => ?_⟩
      cases k with
      | true => exact iteT ⟨ι1, h1, ℓ, r1, lr.mono s1, p1⟩
      | false => exact iteF (p1.ok r1)
  | Or =>
    refine ⟨?_, ?_⟩
    · refine PE.imp (pe_orT ha.v hb.v) fun σ H Q ⟨ι, hh, ℓ, r, lr, p⟩ => ?_
      refine ⟨ι, hh, ℓ, r, lr, p.bind.imp fun x h1 ι1 H1 s1 r1 p1 u hu => ?_⟩
      obtain ⟨k, h2, h3⟩ := truR_ok r1 hu p1.bind
      rw [g.K]
      refine ⟨k, h2, ?_⟩
      cases k with
      | true => exact iteT (h3.ok r1 _ hu)
      | false => exact iteF ⟨ι1, h1, ℓ, r1, lr.mono s1, h3⟩
    · refine PW.imp (pw_or ha.t hb.t) fun σ H Q ⟨ι, hh, ℓ, r, lr, p⟩ => ?_
      refine ⟨ι, hh, ℓ, r, lr, p.bind.imp fun k h1 ι1 H1 s1 r1 p1 => ?_⟩
      cases k with
      | true => exact iteT (p1.ok r1)
      | false => exact iteF ⟨ι1, h1, ℓ, r1, lr.mono s1, p1⟩
theorem b_end {op : BoolOp} (g : Gx G lvl c X) (hb : OkB G Wx X sb (.BoolOp op es pos)) (he : sb.e = false) (hl : ∀ ℓ h, sb.l ℓ h = (sb.v ℓ h).bind fun w h => seqR h w) : OkE G Wx X sb (.BoolOp op es pos) :=
  ⟨hb.v, hb.t.pt, fun z => absurd (he.symm.trans z) Bool.false_ne_true, fun _ => hl⟩

/-! ### comparisons -/
theorem unBl_ok {ι : List Addr} {H : Hp} {σ : L2.St} {rw' : R W} {k : Bool → List O → List Addr → Hp → Prop} (p : Post G Wx σ ι H (unBl rw') k) : Post G Wx σ ι H rw' fun w h' ι' H' => ∃ b, w = .bl b ∧ k b h' ι' H' := by
  refine (Post.bind p).imp fun w h1 ι1 H1 s1 r1 p1 => ?_
  split at p1
  · exact ⟨_, rfl, p1.ok r1⟩
  · exact False.elim p1
theorem opd_run {s : Sm} (ha : OkE G Wx X s a) : PE X a (tO G Wx s.opd) := ha.o
def cmpSm (op : CmpOp) (sa sb : Sm) : Sm := let v := fun ℓ h => (sa.opd ℓ h).bind fun x h => (sb.opd ℓ h).bind fun y h => cmpO op x y h
    { smV v with t := fun ℓ h => unBl (v ℓ h) }
theorem Wants.of {σ : L2.St} {ι : List Addr} {H : Hp} {r : R W} {f : Bool → Hp → Prop} {k : W → List O → List Addr → Hp → Prop} (p : Post G Wx σ ι H r k)
    (hk : ∀ w h' ι' H', k w h' ι' H' → ∃ b, w = .bl b ∧ f b H') : Post G Wx σ ι H r (Wants (fun v H' => ∃ b, v = .bl b ∧ f b H') G) := by
  refine p.imp fun w h1 ι1 H1 s1 r1 q v hv => ?_
  obtain ⟨b, rfl, q2⟩ := hk w h1 ι1 H1 q
  cases hv
  exact ⟨b, rfl, q2⟩
theorem e_cmp {op : CmpOp} (g : Gx G lvl c X) (ha : OkE G Wx X sa a) (hb : OkE G Wx X sb b) (hn : notSet b = true) : OkE G Wx X (cmpSm op sa sb) (.Compare a [op] [b] pos) := by
  have ho : OpR X (compareOp op) (rCmp G.K op) := op_cmp g.hu g.K op
  refine ⟨?_, ?_, fun z => absurd z Bool.false_ne_true, fun _ _ _ => rfl⟩
  · refine PE.imp (pe_cmpR ho ha.o hb.o (set_ok hn)) fun σ H Q ⟨ι, hh, ℓ, r, lr, p⟩ => ?_
    refine ⟨ι, hh, ℓ, r, lr, (Post.bind p).imp fun x h1 ι1 H1 s1 r1 p1 u hu => ?_⟩
    refine ⟨ι1, h1, ℓ, r1, lr.mono s1, (Post.bind p1).imp fun y h2 ι2 H2 s2 r2 p2 v hv => ?_⟩
    exact cmp_sound (hu.mono s2) hv r2 p2
  · refine PT.imp (pt_cmpR ho ha.o hb.o (set_ok hn)) fun σ H Q ⟨ι, hh, ℓ, r, lr, p⟩ => ?_
    have p : Post G Wx σ ι H (unBl ((sa.opd ℓ hh).bind fun x h => (sb.opd ℓ h).bind fun y h => cmpO op x y h)) _ := p
    have p := Wants.of (unBl_ok p) (f := Q) fun w h' ι' H' z => z
    refine ⟨ι, hh, ℓ, r, lr, (Post.bind p).imp fun x h1 ι1 H1 s1 r1 p1 u hu => ?_⟩
    refine ⟨ι1, h1, ℓ, r1, lr.mono s1, (Post.bind p1).imp fun y h2 ι2 H2 s2 r2 p2 v hv => ?_⟩
    exact cmp_sound (hu.mono s2) hv r2 p2
theorem cmpW_O {op : CmpOp} {x y : W} {h : List O} : cmpW op x y h = cmpO op (.inr x) (.inr y) h := by cases op <;> rfl
def chainSm (op1 op2 : CmpOp) (sa sb sc : Sm) : Sm := let v := fun ℓ h => (sa.v ℓ h).bind fun x h => (sb.v ℓ h).bind fun y h => (unBl (cmpW op1 x y h)).bind fun k h =>
      if k = true then ((sc.v ℓ h).bind (fun z h => cmpW op2 y z h)) else .ok (.bl false) h
    { smV v with t := fun ℓ h => unBl (v ℓ h) }
theorem e_chain {op1 op2 : CmpOp} (g : Gx G lvl c X) (ha : OkE G Wx X sa a) (hb : OkE G Wx X sb b) (hd : OkE G Wx X sc d) (hn : notSet d = true) : OkE G Wx X (chainSm op1 op2 sa sb sc) (.Compare a [op1, op2] [b, d] pos) := by
  have ho1 : OpR X (compareOp op1) (rCmp G.K op1) := op_cmp g.hu g.K op1
  have ho2 : OpR X (compareOp op2) (rCmp G.K op2) := op_cmp g.hu g.K op2
  have body : ∀ (σ : L2.St) (H : Hp) (Q : VK) (ι : List Addr) (hh : List O) (ℓ : Lo), Rel G hh ι H → LR G H ι ℓ σ → Post G Wx σ ι H ((chainSm op1 op2 sa sb sc).v ℓ hh) (Wants Q G) → tChain (rCmp G.K op1) (rCmp G.K op2) (tV G Wx sa.v) (tV G Wx sb.v) (tV G Wx sc.v) σ H Q := by
    intro σ H Q ι hh ℓ r lr p
    refine ⟨ι, hh, ℓ, r, lr, (Post.bind p).imp fun x h1 ι1 H1 s1 r1 p1 u hu => ?_⟩
    refine ⟨ι1, h1, ℓ, r1, lr.mono s1, (Post.bind p1).imp fun y h2 ι2 H2 s2 r2 p2 v hv => ?_⟩
    have p3 := unBl_ok (Post.bind p2)
    rw [cmpW_O] at p3
    refine cmp_sound (Q := fun z H3 => ∃ k, z = .bl k ∧ if k = true then tV G Wx sc.v σ H3 (fun w' H4 => rCmp G.K op2 v w' H4 Q) else Q (.bl false) H3) (show OpdR G H2 ι2 (.inr x) u from hu.mono s2) (show OpdR G H2 ι2 (.inr y) v from hv) r2 (p3.imp fun w h3 ι3 H3 s3 r3 p4 z hz => ?_)
    obtain ⟨k, rfl, p4⟩ := p4
    cases hz
    refine ⟨k, rfl, ?_⟩
    cases k with
    | true =>
      refine iteT ⟨ι3, h3, ℓ, r3, (lr.mono s1).mono (s2.trans s3), (Post.bind p4).imp fun z h4 ι4 H4 s4 r4 p5 w' hw' => ?_⟩
      rw [cmpW_O] at p5
      exact cmp_sound (show OpdR G H4 ι4 (.inr y) v from hv.mono (s3.trans s4)) (show OpdR G H4 ι4 (.inr z) w' from hw') r4 p5
    | false => exact iteF (Wants.bl p4 r3)
  refine ⟨?_, ?_, fun z => absurd z Bool.false_ne_true, fun _ _ _ => rfl⟩
  · exact PE.imp (pe_chain ho1 ho2 ha.v hb.v hd.v (by show behindInMarks op2 d = false; exact set_ok hn)) fun σ H Q ⟨ι, hh, ℓ, r, lr, p⟩ => body σ H Q ι hh ℓ r lr p
  · refine PT.imp (pt_chain ho1 ho2 ha.v hb.v hd.v (by show behindInMarks op2 d = false; exact set_ok hn)) fun σ H Q ⟨ι, hh, ℓ, r, lr, p⟩ => ?_
    exact body σ H _ ι hh ℓ r lr (Wants.of (unBl_ok p) (f := Q) fun w h' ι' H' z => z)

/-! ### a if t else b -/
def iteSm (sc sa sb : Sm) : Sm := { smV (fun ℓ h => (sc.t ℓ h).bind fun k h => if k = true then sa.v ℓ h else sb.v ℓ h) with
      t := fun ℓ h => (sc.t ℓ h).bind fun k h => if k = true then sa.t ℓ h else sb.t ℓ h }
theorem e_ite (hc : OkE G Wx X sc d) (ha : OkE G Wx X sa a) (hb : OkE G Wx X sb b) : OkE G Wx X (iteSm sc sa sb) (.IfExp d a b pos) := by
  refine ⟨?_, ?_, fun z => absurd z Bool.false_ne_true, fun _ _ _ => rfl⟩
  · refine PE.imp (pe_ifExp hc.t ha.v hb.v) fun σ H Q ⟨ι, hh, ℓ, r, lr, p⟩ => ?_
    refine ⟨ι, hh, ℓ, r, lr, (Post.bind p).imp fun k h1 ι1 H1 s1 r1 p1 => ?_⟩
    cases k with
    | true => exact iteT ⟨ι1, h1, ℓ, r1, lr.mono s1, p1⟩
    | false => exact iteF ⟨ι1, h1, ℓ, r1, lr.mono s1, p1⟩
  · refine ⟨fun pins s σ H Q I ⟨ι, hh, ℓ, r, lr, p⟩ => ?_⟩
    refine isTrue_IfExp (thn (hc.t.run pins s σ H (fun k H1 => if k = true then tT G Wx sa.t σ H1 Q else tT G Wx sb.t σ H1 Q) I ⟨ι, hh, ℓ, r, lr, (Post.bind p).imp fun k h1 ι1 H1 s1 r1 p1 => ?_⟩) fun k s1 ⟨H1, I1, q1⟩ => ?_)
    · cases k with
      | true => exact iteT ⟨ι1, h1, ℓ, r1, lr.mono s1, p1⟩
      | false => exact iteF ⟨ι1, h1, ℓ, r1, lr.mono s1, p1⟩
    · cases k with
      | true => exact ha.t.run pins s1 σ H1 Q I1 q1
      | false => exact hb.t.run pins s1 σ H1 Q I1 q1

/-! ### subscripts and slices -/
def subSm (sa sb : Sm) : Sm := smV fun ℓ h => (sa.opd ℓ h).bind fun x h => (sb.v ℓ h).bind fun y h => match x with
    | .inl ws => match y with
      | .int i => ofO (atI ws i) h
      | _ => .stuck
    | .inr x => subW x y h
theorem atI_R {ι : List Addr} {H : Hp} {ws : List W} {vs : List V} {i : Int} {w : W} (hr : VRs G H ι ws vs) (e : atI ws i = some w) : ∃ v, atI vs i = some v ∧ VR G H ι w v := by
  unfold atI at e ⊢
  rw [← hr.length]
  cases hj : ixN ws.length i with
  | none => rw [hj] at e; cases e
  | some j =>
    rw [hj] at e
    exact hr.get e
theorem e_sub (g : Gx G lvl c X) (ha : OkE G Wx X sa a) (hb : OkE G Wx X sb b) (hs : notSlice b = true) : OkE G Wx X (subSm sa sb) (.Subscript a b pos) := by
  refine OkE.ofV g ?_ rfl
  refine PE.imp (pe_ix ix_seq ha.o hb.v (slice_ok hs)) fun σ H Q ⟨ι, hh, ℓ, r, lr, p⟩ => ?_
  refine ⟨ι, hh, ℓ, r, lr, (Post.bind p).imp fun x h1 ι1 H1 s1 r1 p1 u hu => ?_⟩
  refine ⟨ι1, h1, ℓ, r1, lr.mono s1, (Post.bind p1).imp fun y h2 ι2 H2 s2 r2 p2 v hv => ?_⟩
  have hu2 := hu.mono s2
  rw [g.K]
  cases x with
  | inl ws =>
    obtain ⟨D, vs, rfl, eD, nD, hr⟩ := hu2
    cases hv <;> first
      | exact False.elim p2
      | skip
    rename_i i
    have p2 : Post G Wx σ ι2 H2 (ofO (atI ws i) h2) (Wants Q G) := p2
    cases ew : atI ws i with
    | none => rw [ew] at p2; exact False.elim p2
    | some w =>
      rw [ew] at p2
      obtain ⟨z, e1, e2⟩ := atI_R hr ew
      exact .inl ⟨D, vs, i, z, rfl, rfl, .of eD, e1, p2.ok r2 _ e2⟩
  | inr x =>
    have hx : VR G H2 ι2 x u := hu2
    have p2 : Post G Wx σ ι2 H2 (subW x y h2) (Wants Q G) := p2
    unfold subW at p2
    split at p2
    · cases hx; cases hv
      obtain ⟨cz, p2⟩ := p2.chk
      split at p2
      · exact .inr (.inr ⟨_, _, _, rfl, rfl, of_decide_eq_true cz, by assumption, Wants.str p2 r2⟩)
      · exact False.elim p2
    · cases hv
      split at p2
      · rename_i ws es
        split at p2
        · rename_i w ew
          obtain ⟨q, vs, rfl, hsq, hr⟩ := seq_of r2 hx es
          obtain ⟨z, e1, e2⟩ := atI_R hr ew
          rcases hsq with hsq | hsq
          · exact .inl ⟨q, vs, _, z, rfl, rfl, hsq, e1, p2.ok r2 _ e2⟩
          · exact .inr (.inl ⟨q, vs, _, z, rfl, rfl, hsq, e1, p2.ok r2 _ e2⟩)
        · exact False.elim p2
      · exact False.elim p2
    · exact False.elim p2
/-- an end of a slice -/
def tP (G : Pg) (Wx : WX) (m : Lo → List O → R (Option Int)) : TO := fun σ H Q => ∃ ι h ℓ, Rel G h ι H ∧ LR G H ι ℓ σ ∧ Post G Wx σ ι H (m ℓ h) fun o _ _ H' => Q o H'
theorem PO.imp {o : Option Expr} {t t' : TO} (h : PO X o t) (f : ∀ σ H Q, t' σ H Q → t σ H Q) : PO X o t' := ⟨fun pins s σ H Q I q => h.run pins s σ H Q I (f σ H Q q)⟩
theorem o_none : PO X none (tP G Wx fun _ h => .ok none h) := PO.imp po_none fun σ H Q ⟨ι, hh, ℓ, r, lr, p⟩ => p.ok r
theorem o_some {m : Lo → List O → R W} (he : PE X e (tV G Wx m)) : PO X (some e) (tP G Wx fun ℓ h => (m ℓ h).bind fun w h => match w with
    | .int i => .ok (some i) h
    | _ => .stuck) := by
  refine PO.imp (po_some he) fun σ H Q ⟨ι, hh, ℓ, r, lr, p⟩ => ?_
  refine ⟨ι, hh, ℓ, r, lr, p.bind.imp fun x h1 ι1 H1 s1 r1 p1 u hu => ?_⟩
  cases hu <;> first
    | exact False.elim p1
    | exact ⟨_, rfl, p1.ok r1⟩
theorem lsqO_ok {ι : List Addr} {H : Hp} {h : List O} {σ : L2.St} {x : Opd} {u : V} {k : List W → List O → List Addr → Hp → Prop} (r : Rel G h ι H) (hu : OpdR G H ι x u) (p : Post G Wx σ ι H (lsqO h x) k) :
    ∃ q vs ws, u = .ref q ∧ SqL G.K H q vs ∧ VRs G H ι ws vs ∧ k ws h ι H := by
  unfold lsqO at p
  split at p
  · obtain ⟨D, vs, rfl, eD, nD, hr⟩ := hu
    exact ⟨D, vs, _, rfl, .of eD, hr, p.ok r⟩
  · cases (show VR G H ι _ u from hu) with
    | slst hs hr => exact ⟨_, _, _, rfl, hs.sql, hr, p.ok r⟩
  · cases (show VR G H ι _ u from hu) with
    | ref ha =>
      split at p
      · obtain ⟨vs, h1, h2⟩ := r.sql (by assumption) ha
        exact ⟨_, vs, _, rfl, h1, h2, p.ok r⟩
      · exact False.elim p
  · exact False.elim p
theorem catO_ok {ι : List Addr} {H : Hp} {h : List O} {σ : L2.St} {x : Opd} {u : V} {k : List W → List O → List Addr → Hp → Prop} (r : Rel G h ι H) (hu : OpdR G H ι x u) (p : Post G Wx σ ι H (lsqO h x) k) :
    ∃ q vs ws, u = .ref q ∧ CatL G.K H q vs ∧ VRs G H ι ws vs ∧ k ws h ι H := by
  unfold lsqO at p
  split at p
  · obtain ⟨D, vs, rfl, eD, nD, hr⟩ := hu
    exact ⟨D, vs, _, rfl, .inl eD, hr, p.ok r⟩
  · cases (show VR G H ι _ u from hu) with
    | slst hs hr => exact ⟨_, _, _, rfl, .inr hs, hr, p.ok r⟩
  · cases (show VR G H ι _ u from hu) with
    | ref ha =>
      split at p
      · rename_i ws eo
        obtain ⟨vs, h1, h2⟩ := r.obj _ _ _ eo ha
        exact ⟨_, vs, _, rfl, .inl h1, h2, p.ok r⟩
      · exact False.elim p
  · exact False.elim p
theorem e_slice {lo hi : Option Expr} {p2 : Pos} {ma : Lo → List O → R W} {ml mh : Lo → List O → R (Option Int)} (g : Gx G lvl c X) (ha : PE X a (tV G Wx ma)) (hl : PO X lo (tP G Wx ml)) (hh : PO X hi (tP G Wx mh)) :
    PE X (.Subscript a (.Slice lo hi none p2) pos) (tV G Wx fun ℓ h => (ma ℓ h).bind fun x h => (ml ℓ h).bind fun l h => (mh ℓ h).bind fun u h => match x with
    | .str z => chk (decide (z.length ≤ sizeLine)) (.ok (.str (cutS z l u)) h)
    | .tup ws => .ok (.tup (cutW ws l u)) h
    | x => (lsqO h (.inr x)).bind fun ws h => .ok (.slst (cutW ws l u)) h) := by
  refine PE.imp (PE.lock (pe_slice (sl_str.or (sl_tupA.or sl_list)) ha hl hh)) fun σ H Q ⟨ι, hh, ℓ, r, lr, p⟩ => ?_
  refine ⟨ι, hh, ℓ, r, lr, p.bind.imp fun x h1 ι1 H1 s1 r1 p1 u hu => ?_⟩
  refine ⟨ι1, h1, ℓ, r1, lr.mono s1, p1.bind.imp fun l h2 ι2 H2 s2 r2 p2 => ?_⟩
  refine ⟨ι2, h2, ℓ, r2, (lr.mono s1).mono s2, p2.bind.imp fun k h3 ι3 H3 s3 r3 p3 => ?_⟩
  have hu2 := (hu.mono s2).mono s3
  rw [g.K]
  have lst : ∀ {x : W}, VR G H3 ι3 x u → Post G Wx σ ι3 H3 ((lsqO h3 (.inr x)).bind fun ws h => .ok (.slst (cutW ws l k)) h) (Wants Q G) → (∃ z, u = .str z ∧ z.length ≤ sizeLine ∧ Lk Q (.str (cutS z l k)) H3) ∨ rSlA G.K u l k H3 (Lk Q) ∨ rSlL G.K u l k H3 (Lk Q) := by
    intro x hx q
    obtain ⟨q1, vs, ws, rfl, hs, hr, p4⟩ := lsqO_ok r3 (show OpdR G H3 ι3 (.inr x) u from hx) q.bind
    refine .inr (.inr ⟨q1, vs, rfl, hs, fun t ht => .inr ⟨t, _, upd_same, trivial, fun od => ?_⟩⟩)
    rw [upd_upd]
    exact p4 ι3 _ (Step.new ht) (r3.new ht) _ (.slst (.inl ⟨od, upd_same⟩) ((hr.cut l k).mono (Step.new ht)))
  cases hu2 with
  | str z =>
    obtain ⟨cz, p3⟩ := Post.chk p3
    exact .inl ⟨z, rfl, of_decide_eq_true cz, .inl (Wants.str p3 r3)⟩
  | @tup q vs ws hs hr =>
    refine .inr (.inl ⟨q, vs, rfl, hs, fun hw => ?_, fun hw t ht => ?_⟩)
    · have e : cutW ws l k = ws := by
        unfold cutW
        rw [hr.length, hw.1, hw.2, List.drop_zero, Nat.sub_zero, ← hr.length, List.take_length]
      have p3 : Post G Wx σ ι3 H3 (.ok (.tup (cutW ws l k)) h3) (Wants Q G) := p3
      rw [e] at p3
      exact .inl (p3.ok r3 _ (.tup hs hr))
    · have p3 : Post G Wx σ ι3 H3 (.ok (.tup (cutW ws l k)) h3) (Wants Q G) := p3
      exact .inl <| p3 ι3 _ (Step.new ht) (r3.new ht) _ (.tup (.of upd_same) ((hr.cut l k).mono (Step.new ht)))
  | slst hs hr => exact lst (.slst hs hr) p3
  | ref ha => exact lst (.ref ha) p3
  | _ => exact False.elim p3
theorem e_lcut {lo hi : Option Expr} {p2 : Pos} {ml mh : Lo → List O → R (Option Int)} (g : Gx G lvl c X) (ha : OkE G Wx X sa a) (hl : PO X lo (tP G Wx ml)) (hh : PO X hi (tP G Wx mh)) :
    PE X (.Subscript a (.Slice lo hi none p2) pos) (tL G Wx fun ℓ h => (sa.opd ℓ h).bind fun x h => (ml ℓ h).bind fun l h => (mh ℓ h).bind fun u h => (lsqO h x).bind fun ws h => .ok (cutW ws l u) h) := by
  refine PE.imp (pe_slice sl_list ha.o hl hh) fun σ H Q ⟨ι, hh, ℓ, r, lr, p⟩ => ?_
  refine ⟨ι, hh, ℓ, r, lr, p.bind.imp fun x h1 ι1 H1 s1 r1 p1 u hu => ?_⟩
  refine ⟨ι1, h1, ℓ, r1, lr.mono s1, p1.bind.imp fun l h2 ι2 H2 s2 r2 p2 => ?_⟩
  refine ⟨ι2, h2, ℓ, r2, (lr.mono s1).mono s2, p2.bind.imp fun k h3 ι3 H3 s3 r3 p3 => ?_⟩
  have hu2 := (hu.mono s2).mono s3
  rw [g.K]
  obtain ⟨q, vs, ws, rfl, hs, hr, p4⟩ := lsqO_ok r3 hu2 p3.bind
  refine ⟨q, vs, rfl, hs, fun t ht => ?_⟩
  have s4 : Step ι3 H3 ι3 (upd H3 t (.lst (cutV vs l k))) := Step.new ht
  exact p4 ι3 _ s4 (r3.new ht) t _ (s1.back (s2.back (s3.back ht))) (r3.fresh ht) upd_same ((hr.cut l k).mono s4)
theorem VRs.flat {ι : List Addr} {H : Hp} {ws : List W} {vs : List V} (hr : VRs G H ι ws vs) : ∀ k : Nat, VRs G H ι (List.replicate k ws).flatten (List.replicate k vs).flatten
  | 0 => .nil
  | k + 1 => by
    rw [List.replicate_succ, List.replicate_succ, List.flatten_cons, List.flatten_cons]
    exact hr.append (VRs.flat hr k)
theorem e_lrep {mn : Lo → List O → R W} (ha : PE X a (tL G Wx sa.l)) (hb : PE X b (tV G Wx mn)) :
    PE X (.BinOp a .Mult b pos) (tL G Wx fun ℓ h => (sa.l ℓ h).bind fun ws h => (mn ℓ h).bind fun y h => match y with
    | .int k => chk (decide (-(2 ^ 63) ≤ k ∧ k < 2 ^ 63) && decide (ws.length * k.toNat ≤ sizeLine)) (.ok (List.replicate k.toNat ws).flatten h)
    | _ => .stuck) := by
  refine PE.imp (pe_op op_rep ha hb) fun σ H Q ⟨ι, hh, ℓ, r, lr, p⟩ => ?_
  refine ⟨ι, hh, ℓ, r, lr, p.bind.imp fun ws h1 ι1 H1 s1 r1 p1 D vs hD nD eD hr => ?_⟩
  refine ⟨ι1, h1, ℓ, r1, lr.mono s1, p1.bind.imp fun y h2 ι2 H2 s2 r2 p2 v hv => ?_⟩
  cases hv <;> first
    | exact False.elim p2
    | skip
  rename_i k
  obtain ⟨cz, p2⟩ := Post.chk p2
  rw [Bool.and_eq_true] at cz
  obtain ⟨⟨c1, c2⟩, c3⟩ : (-(2 ^ 63) ≤ k ∧ k < 2 ^ 63) ∧ ws.length * k.toNat ≤ sizeLine := ⟨of_decide_eq_true cz.1, of_decide_eq_true cz.2⟩
  have eD2 : H2 D = some (.lst vs) := s2.keep D _ eD nD
  refine ⟨D, k, vs, rfl, rfl, eD2, c1, c2, by rw [← hr.length]; exact c3, fun t ht => ?_⟩
  have s4 : Step ι2 H2 ι2 (upd H2 t (.lst (List.replicate k.toNat vs).flatten)) := Step.new ht
  exact p2 ι2 _ s4 (r2.new ht) t _ (s1.back (s2.back ht)) (r2.fresh ht) upd_same (((hr.mono s2).flat k.toNat).mono s4)
theorem e_lcat (g : Gx G lvl c X) (ha : OkE G Wx X sa a) (hb : OkE G Wx X sb b) :
    PE X (.BinOp a .Add b pos) (tL G Wx fun ℓ h => (sa.opd ℓ h).bind fun x h => (sb.opd ℓ h).bind fun y h => (lsqO h x).bind fun xs h => (lsqO h y).bind fun ys h => chk (decide (xs.length + ys.length ≤ sizeLine)) (.ok (xs ++ ys) h)) := by
  refine PE.imp (pe_op op_catS ha.o hb.o) fun σ H Q ⟨ι, hh, ℓ, r, lr, p⟩ => ?_
  refine ⟨ι, hh, ℓ, r, lr, p.bind.imp fun x h1 ι1 H1 s1 r1 p1 u hu => ?_⟩
  refine ⟨ι1, h1, ℓ, r1, lr.mono s1, p1.bind.imp fun y h2 ι2 H2 s2 r2 p2 v hv => ?_⟩
  rw [g.K]
  obtain ⟨q, vs, ws, rfl, e1, hr1, p3⟩ := catO_ok r2 (hu.mono s2) p2.bind
  obtain ⟨q2, vs2, ws2, rfl, e2, hr2, p4⟩ := catO_ok r2 hv p3.bind
  obtain ⟨cz, p4⟩ := p4.chk
  refine ⟨q, q2, vs, vs2, rfl, rfl, e1, e2, by rw [← hr1.length, ← hr2.length]; exact of_decide_eq_true cz, fun t ht => ?_⟩
  have s4 : Step ι2 H2 ι2 (upd H2 t (.lst (vs ++ vs2))) := Step.new ht
  exact p4 ι2 _ s4 (r2.new ht) t _ (s1.back (s2.back ht)) (r2.fresh ht) upd_same ((hr1.append hr2).mono s4)
theorem e_frz {l : Lo → List O → R (List W)} (h : PE X a (tL G Wx l)) : PE X a (tV G Wx fun ℓ h => (l ℓ h).bind fun ws h => .ok (.slst ws) h) := by
  refine PE.imp (PE.lock h) fun σ H Q ⟨ι, hh, ℓ, r, lr, p⟩ => ⟨ι, hh, ℓ, r, lr, p.bind0.imp fun ws h1 ι1 H1 s1 r1 p1 D vs hD nD eD hr => ?_⟩
  refine .inr ⟨D, _, eD, trivial, fun od => ?_⟩
  obtain ⟨s2, m2⟩ := s1.apart (o := .frz od (.lst vs)) hD eD (fun z => z)
  exact p1 ι1 _ s2 (r1.mon m2 fun a ha => upd_ne fun z => nD (by rw [← z]; exact ha)) _ (.slst (.inl ⟨od, upd_same⟩) (hr.mon m2))
end
end MP
set_option maxRecDepth 100000
set_option maxHeartbeats 4000000
namespace MP
open PySem PySem.Spec PyProof.Rows L2
section
variable {G : Pg} {lvl : Nat} {c : Ctx} {X : Cx} {Wx : WX} {C : Cn} {a b d e : Expr} {es : List Expr} {pos p : Pos} {sa sb sc : Sm}

/-! ### calls of the text's own defs -/
theorem Post.reσ {α : Type} {σ : L2.St} {ι : List Addr} {H : Hp} {r : R α} {k : α → List O → List Addr → Hp → Prop} (q : Post G Wx σ ι H r k) : Post G (fun cls d _ H => Wx cls d σ H) [] ι H r k := by
  cases r with
  | ok a h' => exact q
  | exc x h' => exact q
  | stuck => exact q
/-- a call with values -/
theorem run_g (g : Gx G lvl c X) (tk : Takes X Wx) {fa : Addr} {fd : FuncData} {ps : List Str} {sp : Sp} (hb : Binds G.K fd ps []) (F : FnG G lvl fa fd ps sp)
    {pins : List (Addr × Obj)} {σ : L2.St} {H : Hp} {s : Shared} {Q : VK} {us : List Value} {vs : List V} (I : Inv X pins σ H s) (r : Vals vs us) (q : sp vs H Q (WE Wx σ)) :
    wpAny (model X.prog X.w) X.A (call (.ref fa) us) (EP X pins σ Q) X.xe s := by
  have hlen : us.length = ps.length := by rw [← r.length]; exact F.len _ _ _ _ q
  have kin : G.K.In s.heap := by have z := I.kIn; rw [g.K] at z; exact z
  have b := hb s us kin (by rw [List.append_nil]; exact hlen)
  rw [List.append_nil] at b
  have e0 : Env0 G.P G.w G.K G.mg G.base X.A X.stack s H := by
    have z := I.env0
    rw [g.prog, g.w, g.K, g.mg, g.base] at z
    exact z
  have run := F.run X.A X.stack s H ⟨us, []⟩ us vs Q (WE Wx σ) g.room g.gd e0 b r q
  rw [← g.prog, ← g.w] at run
  refine wpAny_call (codeAny_mono run fun res s' hq => ?_)
  cases res with
  | error er => exact passAt tk σ pins H s er s' I hq
  | ok fl =>
    cases fl with
    | ret u => exact I.after hq
    | next => exact False.elim hq
    | brk => exact False.elim hq
    | cont => exact False.elim hq
theorem call_fin {f : Str} {ps : List Str} (hlen : ∀ ws h, ws.length ≠ ps.length → C.call f ws h = .stuck) {σ : L2.St} {H : Hp} {Q : VK} {ι : List Addr} {h : List O} {ws : List W} {vs : List V} (r : Rel G h ι H) (hv : VRs G H ι ws vs)
    (q : Post G Wx σ ι H (C.call f ws h) (Wants Q G)) : spI G (C.call f) ps.length vs H Q (WE Wx σ) := by
  refine ⟨?_, ι, h, ws, r, hv, q.reσ⟩
  by_cases hl : ws.length = ps.length
  · rw [← hv.length]; exact hl
  · rw [hlen ws h hl] at q
    exact False.elim q
theorem e_call0 {f : Str} (F : Fc G C lvl c.fs) (g : Gx G lvl c X) (tk : Takes X Wx) (hf : f ∈ c.fs) (hgl : glB c f = true) (hd : debB f = true) :
    PE X (.Call (.Name f p) [] [] pos) (tV G Wx fun ℓ h => (R.ok [] h : R (List W)).bind fun ws h => C.call f ws h) := by
  obtain ⟨fa, fd, ps, hm, hk, hb, hF, hlen⟩ := F.call f hf
  have hm' : X.mg f = some (.ref fa) := by rw [g.mg]; exact hm
  have hk' : PySem.W.keepIn X.K (.ref fa) = true := by rw [g.K]; exact hk
  refine ⟨fun pins s σ H Q I ⟨ι, hh, ℓ, r, lr, q⟩ => ?_⟩
  refine wpAny_Call_Name_kw (ld_glob I (g.gl hgl) hm' ?_ (deb_of hd))
  have q : Post G Wx σ ι H (C.call f [] hh) (Wants Q G) := q
  exact PySem.W.callWith_K0 I.kIn hk' (run_g (us := []) g tk hb hF I .nil (call_fin hlen r .nil q))
theorem e_call {f : Str} {ms : Lo → List O → R (List W)} (F : Fc G C lvl c.fs) (g : Gx G lvl c X) (tk : Takes X Wx) (hf : f ∈ c.fs) (hgl : glB c f = true) (hd : debB f = true) (hst : (e :: es).all notStar = true) (ha : PA X (e :: es) (tA G Wx ms)) :
    PE X (.Call (.Name f p) (e :: es) [] pos) (tV G Wx fun ℓ h => (ms ℓ h).bind fun ws h => C.call f ws h) := by
  obtain ⟨fa, fd, ps, hm, hk, hb, hF, hlen⟩ := F.call f hf
  have hm' : X.mg f = some (.ref fa) := by rw [g.mg]; exact hm
  have hk' : PySem.W.keepIn X.K (.ref fa) = true := by rw [g.K]; exact hk
  refine ⟨fun pins s σ H Q I ⟨ι, hh, ℓ, r, lr, q⟩ => ?_⟩
  have q2 := Post.bind q
  rw [List.all_cons, Bool.and_eq_true] at hst
  refine wpAny_Call_Name_kw (ld_glob I (g.gl hgl) hm' ?_ (deb_of hd))
  refine PySem.W.callWith_K (h₀ := X.base) I.ok.mod.kin hk' (thn (ha.run pos pins s σ H (fun vs H1 => spI G (C.call f) ps.length vs H1 Q (WE Wx σ)) I ⟨ι, hh, ℓ, r, lr, q2.imp fun ws h1 ι1 H1 s1 r1 p1 vs hv => call_fin hlen r1 hv p1⟩) fun us s1 ⟨vs, H1, I1, rv, q1⟩ => ⟨I1.kIn, ?_⟩) (star_ok hst.1) (stars_ok hst.2)
  exact run_g g tk hb hF I1 rv q1

/-! ### built-in functions -/
theorem nm_blt (F : Fc G C lvl c.fs) (g : Gx G lvl c X) {f : Str} (h : f ∈ bltNames) : X.mg f = none := by rw [g.mg]; exact F.blt f h
/-- of one value -/
theorem k_abs (F : Fc G C lvl c.fs) (g : Gx G lvl c X) {m : Lo → List O → R W} (hgl : glB c "abs" = true) (hst : notStar a = true) (ha : PE X a (tV G Wx m)) :
    PE X (.Call (.Name "abs" p) [a] [] pos) (tV G Wx fun ℓ h => (m ℓ h).bind fun w h => bltV "abs" [w] h) := by
  refine PE.imp (pe_callB call_abs (g.gl hgl) (nm_blt F g (by decide)) (by decide +kernel) (a_one ha hst) (he := star_ok hst) (hpl := rfl)) fun σ H Q ⟨ι, hh, ℓ, r, lr, q⟩ => ?_
  refine ⟨ι, hh, ℓ, r, lr, q.bind.imp fun w h1 ι1 H1 s1 r1 p1 v hv => ?_⟩
  unfold bltV at p1
  rw [if_pos rfl] at p1
  cases hv <;> first
    | exact False.elim p1
    | exact ⟨_, rfl, Wants.int p1 r1⟩
/-- of two values -/
theorem k_max (F : Fc G C lvl c.fs) (g : Gx G lvl c X) {m n : Lo → List O → R W} (hgl : glB c "max" = true) (hst : notStar a = true) (hst2 : notStar b = true) (ha : PE X a (tV G Wx m)) (hb : PE X b (tV G Wx n)) :
    PE X (.Call (.Name "max" p) [a, b] [] pos) (tV G Wx fun ℓ h => (m ℓ h).bind fun x h => (n ℓ h).bind fun y h => (R.ok [] h : R (List W)).bind fun ws h => bltV "max" (x :: y :: ws) h) := by
  refine PE.imp (pe_callB (call_max2 g.calm) (g.gl hgl) (nm_blt F g (by decide)) (by decide +kernel) (pa_cons ha (pa_cons hb pa_nil (star_ok hst2)) (star_ok hst)) (he := star_ok hst) (hpl := stars_ok (es := [b]) (by rw [List.all_cons, hst2]; rfl))) fun σ H Q ⟨ι, hh, ℓ, r, lr, q⟩ => ?_
  refine ⟨ι, hh, ℓ, r, lr, q.bind.imp fun x h1 ι1 H1 s1 r1 p1 u hu => ?_⟩
  refine ⟨ι1, h1, ℓ, r1, lr.mono s1, p1.bind.imp fun y h2 ι2 H2 s2 r2 p2 v hv => ?_⟩
  have p2 : Post G Wx σ ι2 H2 (bltV "max" [x, y] h2) (Wants Q G) := p2
  unfold bltV at p2
  rw [if_neg (by decide), if_pos rfl] at p2
  cases hu <;> cases hv <;> first
    | exact False.elim p2
    | exact ⟨_, _, rfl, Wants.int p2 r2⟩
theorem k_min (F : Fc G C lvl c.fs) (g : Gx G lvl c X) {m n : Lo → List O → R W} (hgl : glB c "min" = true) (hst : notStar a = true) (hst2 : notStar b = true) (ha : PE X a (tV G Wx m)) (hb : PE X b (tV G Wx n)) :
    PE X (.Call (.Name "min" p) [a, b] [] pos) (tV G Wx fun ℓ h => (m ℓ h).bind fun x h => (n ℓ h).bind fun y h => (R.ok [] h : R (List W)).bind fun ws h => bltV "min" (x :: y :: ws) h) := by
  refine PE.imp (pe_callB (call_min2 g.calm) (g.gl hgl) (nm_blt F g (by decide)) (by decide +kernel) (pa_cons ha (pa_cons hb pa_nil (star_ok hst2)) (star_ok hst)) (he := star_ok hst) (hpl := stars_ok (es := [b]) (by rw [List.all_cons, hst2]; rfl))) fun σ H Q ⟨ι, hh, ℓ, r, lr, q⟩ => ?_
  refine ⟨ι, hh, ℓ, r, lr, q.bind.imp fun x h1 ι1 H1 s1 r1 p1 u hu => ?_⟩
  refine ⟨ι1, h1, ℓ, r1, lr.mono s1, p1.bind.imp fun y h2 ι2 H2 s2 r2 p2 v hv => ?_⟩
  have p2 : Post G Wx σ ι2 H2 (bltV "min" [x, y] h2) (Wants Q G) := p2
  unfold bltV at p2
  rw [if_neg (by decide), if_neg (by decide), if_pos rfl] at p2
  cases hu <;> cases hv <;> first
    | exact False.elim p2
    | exact ⟨_, _, rfl, Wants.int p2 r2⟩
theorem k_len (F : Fc G C lvl c.fs) (g : Gx G lvl c X) (hgl : glB c "len" = true) (hst : notStar a = true) (ha : OkE G Wx X sa a) :
    PE X (.Call (.Name "len" p) [a] [] pos) (tV G Wx fun ℓ h => (sa.opd ℓ h).bind fun x h => match x with
      | .inl ws => .ok (.int ws.length) h
      | .inr w => lenW w h) := by
  refine PE.imp (pe_callB call_len (g.gl hgl) (nm_blt F g (by decide)) (by decide +kernel) (a_one ha.o hst) (he := star_ok hst) (hpl := rfl)) fun σ H Q ⟨ι, hh, ℓ, r, lr, q⟩ => ?_
  refine ⟨ι, hh, ℓ, r, lr, q.bind.imp fun x h1 ι1 H1 s1 r1 p1 v hv => ?_⟩
  rw [g.K]
  have seq : ∀ {w : W}, VR G H1 ι1 w v → Post G Wx σ ι1 H1 ((seqR h1 w).bind fun ws h => .ok (.int ws.length) h) (Wants Q G) → ∃ (x : V) (n : Nat), [v] = [x] ∧ LenV G.K x H1 n ∧ Q (.int n) H1 := by
    intro w hw p2
    unfold seqR at p2
    split at p2
    · rename_i ws es
      obtain ⟨q, vs, rfl, hsq, hr⟩ := seq_of r1 hw es
      have z := Wants.int p2 r1
      rw [hr.length] at z
      refine ⟨_, vs.length, rfl, ?_, z⟩
      rcases hsq with hsq | hsq
      · exact .inl ⟨vs, hsq, rfl⟩
      · exact .inr ⟨vs, hsq, rfl⟩
    · exact False.elim p2
  cases x with
  | inl ws =>
    obtain ⟨D, vs, rfl, eD, nD, hr⟩ := hv
    have z := Wants.int p1 r1
    rw [hr.length] at z
    exact ⟨_, vs.length, rfl, .inl ⟨vs, .of eD, rfl⟩, z⟩
  | inr w =>
    have hw : VR G H1 ι1 w v := hv
    have p1 : Post G Wx σ ι1 H1 (lenW w h1) (Wants Q G) := p1
    cases hw with
    | str x =>
      obtain ⟨cz, p1⟩ := Post.chk p1
      exact ⟨_, x.length, rfl, ⟨of_decide_eq_true cz, rfl⟩, Wants.int p1 r1⟩
    | non => exact False.elim p1
    | bl b => exact False.elim p1
    | int i => exact False.elim p1
    | tup hs hr => exact seq (.tup hs hr) p1
    | slst hs hr => exact seq (.slst hs hr) p1
    | sdct hs hr => exact False.elim p1
    | ref hq => exact seq (.ref hq) p1

/-! ### of a list or a tuple -/
theorem unInts_ok : ∀ {ws : List W} {ns : List Int}, unInts ws = some ns → ws = ns.map W.int
  | [], _, h => by cases h; rfl
  | w :: ws, ns, h => by
    cases w <;> first
      | cases h
      | skip
    rename_i i
    rw [unInts, Option.map_eq_some_iff] at h
    obtain ⟨ms, h1, rfl⟩ := h
    rw [unInts_ok h1, List.map_cons]
theorem unBls_ok : ∀ {ws : List W} {ns : List Bool}, unBls ws = some ns → ws = ns.map W.bl
  | [], _, h => by cases h; rfl
  | w :: ws, ns, h => by
    cases w <;> first
      | cases h
      | skip
    rename_i i
    rw [unBls, Option.map_eq_some_iff] at h
    obtain ⟨ms, h1, rfl⟩ := h
    rw [unBls_ok h1, List.map_cons]
theorem unStrs_ok : ∀ {ws : List W} {ns : List Str}, unStrs ws = some ns → ws = ns.map W.str
  | [], _, h => by cases h; rfl
  | w :: ws, ns, h => by
    cases w <;> first
      | cases h
      | skip
    rename_i i
    rw [unStrs, Option.map_eq_some_iff] at h
    obtain ⟨ms, h1, rfl⟩ := h
    rw [unStrs_ok h1, List.map_cons]
section
variable {ι : List Addr} {H : Hp}
theorem VRs.ints' : ∀ {ns : List Int} {vs : List V}, VRs G H ι (ns.map W.int) vs → vs = ns.map V.int
  | [], _, h => by cases h; rfl
  | n :: ns, _, h => by
    cases h with
    | cons h1 h2 =>
      cases h1
      rw [VRs.ints' h2, List.map_cons]
theorem VRs.bls' : ∀ {ns : List Bool} {vs : List V}, VRs G H ι (ns.map W.bl) vs → vs = ns.map V.bl
  | [], _, h => by cases h; rfl
  | n :: ns, _, h => by
    cases h with
    | cons h1 h2 =>
      cases h1
      rw [VRs.bls' h2, List.map_cons]
theorem VRs.strs' : ∀ {ns : List Str} {vs : List V}, VRs G H ι (ns.map W.str) vs → vs = ns.map V.str
  | [], _, h => by cases h; rfl
  | n :: ns, _, h => by
    cases h with
    | cons h1 h2 =>
      cases h1
      rw [VRs.strs' h2, List.map_cons]
end

theorem k_all (F : Fc G C lvl c.fs) (g : Gx G lvl c X) (hgl : glB c "all" = true) (hst : notStar a = true) (ha : OkE G Wx X sa a) :
    PE X (.Call (.Name "all" p) [a] [] pos) (tV G Wx fun ℓ h => (sa.opd ℓ h).bind fun x h => (lsqO h x).bind fun ws h => bltL "all" ws h) := by
  refine PE.imp (pe_callB (cr_all g.calm) (g.gl hgl) (nm_blt F g (by decide)) (by decide +kernel) (a_one ha.o hst) (he := star_ok hst) (hpl := rfl)) fun σ H Q ⟨ι, hh, ℓ, r, lr, q⟩ => ?_
  refine ⟨ι, hh, ℓ, r, lr, q.bind.imp fun x h1 ι1 H1 s1 r1 p1 v hv => ?_⟩
  obtain ⟨t, vs, ws, rfl, hs, hr, p2⟩ := lsqO_ok r1 hv p1.bind
  rw [g.K]
  unfold bltL at p2
  rw [if_pos rfl] at p2
  split at p2
  · rename_i bs eb
    have e := unBls_ok eb
    subst e
    have e := hr.bls'
    subst e
    exact ⟨t, bs, rfl, hs, Wants.bl p2 r1⟩
  · exact False.elim p2
theorem k_any (F : Fc G C lvl c.fs) (g : Gx G lvl c X) (hgl : glB c "any" = true) (hst : notStar a = true) (ha : OkE G Wx X sa a) :
    PE X (.Call (.Name "any" p) [a] [] pos) (tV G Wx fun ℓ h => (sa.opd ℓ h).bind fun x h => (lsqO h x).bind fun ws h => bltL "any" ws h) := by
  refine PE.imp (pe_callB (cr_any g.calm) (g.gl hgl) (nm_blt F g (by decide)) (by decide +kernel) (a_one ha.o hst) (he := star_ok hst) (hpl := rfl)) fun σ H Q ⟨ι, hh, ℓ, r, lr, q⟩ => ?_
  refine ⟨ι, hh, ℓ, r, lr, q.bind.imp fun x h1 ι1 H1 s1 r1 p1 v hv => ?_⟩
  obtain ⟨t, vs, ws, rfl, hs, hr, p2⟩ := lsqO_ok r1 hv p1.bind
  rw [g.K]
  unfold bltL at p2
  rw [if_neg (by decide), if_pos rfl] at p2
  split at p2
  · rename_i bs eb
    have e := unBls_ok eb
    subst e
    have e := hr.bls'
    subst e
    exact ⟨t, bs, rfl, hs, Wants.bl p2 r1⟩
  · exact False.elim p2
theorem k_sum (F : Fc G C lvl c.fs) (g : Gx G lvl c X) (hgl : glB c "sum" = true) (hst : notStar a = true) (ha : OkE G Wx X sa a) :
    PE X (.Call (.Name "sum" p) [a] [] pos) (tV G Wx fun ℓ h => (sa.opd ℓ h).bind fun x h => (lsqO h x).bind fun ws h => bltL "sum" ws h) := by
  refine PE.imp (pe_callB (cr_sum g.calm) (g.gl hgl) (nm_blt F g (by decide)) (by decide +kernel) (a_one ha.o hst) (he := star_ok hst) (hpl := rfl)) fun σ H Q ⟨ι, hh, ℓ, r, lr, q⟩ => ?_
  refine ⟨ι, hh, ℓ, r, lr, q.bind.imp fun x h1 ι1 H1 s1 r1 p1 v hv => ?_⟩
  obtain ⟨t, vs, ws, rfl, hs, hr, p2⟩ := lsqO_ok r1 hv p1.bind
  rw [g.K]
  unfold bltL at p2
  rw [if_neg (by decide), if_neg (by decide), if_pos rfl] at p2
  split at p2
  · rename_i bs eb
    have e := unInts_ok eb
    subst e
    have e := hr.ints'
    subst e
    exact ⟨t, bs, rfl, hs, Wants.int p2 r1⟩
  · exact False.elim p2
/-- other names without a meaning here -/
theorem k_no (F : Fc G C lvl c.fs) (g : Gx G lvl c X) {f : Str} (hgl : glB c f = true) (hst : notStar a = true) (ha : OkE G Wx X sa a) (h : ¬ (f = "all" ∨ f = "any" ∨ f = "sum")) : ∀ ws h, bltL f ws h = .stuck := by
  intro ws hh
  unfold bltL
  rw [if_neg fun z => h (.inl z), if_neg fun z => h (.inr (.inl z)), if_neg fun z => h (.inr (.inr z))]
theorem k_tuple (F : Fc G C lvl c.fs) (g : Gx G lvl c X) (hgl : glB c "tuple" = true) (hst : notStar a = true) (ha : OkE G Wx X sa a) :
    PE X (.Call (.Name "tuple" p) [a] [] pos) (tV G Wx fun ℓ h => (sa.l ℓ h).bind fun ws h => .ok (.tup ws) h) := by
  refine PE.imp (pe_callTy call_tuple_of (g.gl hgl) (nm_blt F g (by decide)) (by decide +kernel) (a_one ha.s hst) (he := star_ok hst) (hpl := rfl)) fun σ H Q ⟨ι, hh, ℓ, r, lr, q⟩ => ?_
  refine ⟨ι, hh, ℓ, r, lr, q.bind.imp fun ws h1 ι1 H1 s1 r1 p1 t vs hs hr => ?_⟩
  rw [g.K]
  refine ⟨t, vs, rfl, ?_⟩
  rcases hs with hs | hs
  · exact .inl ⟨hs, fun l hl => p1 ι1 _ (Step.new hl) (r1.new hl) _ (.tup (.of upd_same) (hr.mono (Step.new hl)))⟩
  · exact .inr ⟨hs, p1.ok r1 _ (.tup hs hr)⟩
theorem k_list (F : Fc G C lvl c.fs) (g : Gx G lvl c X) (hgl : glB c "list" = true) (hst : notStar a = true) (ha : OkE G Wx X sa a) :
    PE X (.Call (.Name "list" p) [a] [] pos) (tL G Wx fun ℓ h => sa.l ℓ h) := by
  refine PE.imp (pe_callTy call_list_of (g.gl hgl) (nm_blt F g (by decide)) (by decide +kernel) (a_one ha.s hst) (he := star_ok hst) (hpl := rfl)) fun σ H Q ⟨ι, hh, ℓ, r, lr, q⟩ => ?_
  refine ⟨ι, hh, ℓ, r, lr, ?_⟩
  have q : Post G Wx σ ι H (sa.l ℓ hh) (fun ws h' ι' H' => ∀ (D : Addr) (vs : List V), H D = none → D ∉ ι' → H' D = some (.lst vs) → VRs G H' ι' ws vs → Q (.ref D) H') := q
  revert q
  cases sa.l ℓ hh with
  | stuck => exact fun q => q
  | exc x h' => exact fun q => q
  | ok ws h' =>
    intro q ι' H' s q2 t vs hs hr
    rw [g.K]
    refine ⟨t, vs, rfl, hs, fun l hl => ?_⟩
    have s2 : Step ι' H' ι' (upd H' l (.lst vs)) := Step.new hl
    exact q ι' _ (s.trans s2) (q2.new hl) l vs (s.back hl) (q2.fresh hl) upd_same (hr.mono s2)

/-! ### repr -/
theorem mapM_kv {f : W → Option PyData} {P : PyData → Prop} (hf : ∀ w d, f w = some d → P d) : ∀ {kvs : List (Key × W)} {ds : List (PyData × PyData)}, (kvs.mapM fun kv => (f kv.2).map fun d => (keyD kv.1, d)) = some ds → ∀ p ∈ ds, (∃ k, p.1 = keyD k) ∧ P p.2 := by
  intro kvs
  induction kvs with
  | nil =>
    intro ds e
    simp at e
    subst e
    exact fun p hp => absurd hp (by simp)
  | cons kv kvs ih =>
    intro ds e
    simp only [List.mapM_cons, Option.pure_def, Option.bind_eq_bind, Option.bind_eq_some_iff, Option.map_eq_some_iff] at e
    obtain ⟨_, ⟨d, e1, rfl⟩, ds', e2, e3⟩ := e
    cases e3
    intro p hp
    rcases List.mem_cons.mp hp with rfl | hp
    · exact ⟨⟨_, rfl⟩, hf _ _ e1⟩
    · exact ih e2 p hp
theorem depthKv_le {n : Nat} : ∀ {ds : List (PyData × PyData)}, (∀ p ∈ ds, (∃ k, p.1 = keyD k) ∧ p.2.depth ≤ n) → PyData.depthKv ds ≤ n
  | [], _ => Nat.zero_le _
  | (a, b) :: r, h => by
    obtain ⟨⟨k, e⟩, hb⟩ := h _ List.mem_cons_self
    have ih := depthKv_le (ds := r) fun p hp => h p (List.mem_cons_of_mem _ hp)
    dsimp only at e hb
    subst e
    have z : (keyD k).depth = 0 := by cases k <;> simp [keyD, PyData.depth]
    simp only [PyData.depthKv, z]
    omega
theorem toD_small {h : List O} : ∀ (n : Nat) {w : W} {d : PyData}, toD h n w = some d → d.depth ≤ n := by
  intro n
  induction n with
  | zero =>
    intro w d e
    cases w <;> simp [toD] at e <;> subst e <;> simp [PyData.depth]
  | succ n ih =>
    intro w d e
    have all : ∀ {ws : List W} {ds : List PyData}, ws.mapM (toD h n) = some ds → PyData.depthAll ds ≤ n := by
      intro ws
      induction ws with
      | nil =>
        intro ds e
        simp at e
        subst e
        simp [PyData.depthAll]
      | cons w ws ih2 =>
        intro ds e
        simp only [List.mapM_cons, Option.pure_def, Option.bind_eq_bind, Option.bind_eq_some_iff] at e
        obtain ⟨d, e1, ds', e2, e3⟩ := e
        cases e3
        have a1 := ih e1
        have b1 := ih2 e2
        simp only [PyData.depthAll]
        omega
    have kvs : ∀ {ws : List (Key × W)} {ds : List (PyData × PyData)}, (ws.mapM fun kv => (toD h n kv.2).map fun d => (keyD kv.1, d)) = some ds → PyData.depthKv ds ≤ n := fun e => depthKv_le (mapM_kv (f := toD h n) (P := fun d => d.depth ≤ n) (fun w d q => ih q) e)
    cases w with
    | tup ws =>
      rw [toD, Option.map_eq_some_iff] at e
      obtain ⟨ds, e1, rfl⟩ := e
      have a1 := all e1
      simp only [PyData.depth]
      omega
    | slst ws =>
      rw [toD, Option.map_eq_some_iff] at e
      obtain ⟨ds, e1, rfl⟩ := e
      have a1 := all e1
      simp only [PyData.depth]
      omega
    | sdct ws =>
      rw [toD, Option.map_eq_some_iff] at e
      obtain ⟨ds, e1, rfl⟩ := e
      have a1 := kvs e1
      simp only [PyData.depth]
      omega
    | ref i =>
      rw [toD] at e
      split at e
      · rw [Option.map_eq_some_iff] at e
        obtain ⟨ds, e1, rfl⟩ := e
        have a1 := all e1
        simp only [PyData.depth]
        omega
      · rw [Option.map_eq_some_iff] at e
        obtain ⟨ds, e1, rfl⟩ := e
        have a1 := kvs e1
        simp only [PyData.depth]
        omega
      · cases e
    | non => simp [toD] at e; subst e; simp [PyData.depth]
    | bl b => simp [toD] at e; subst e; simp [PyData.depth]
    | int i => simp [toD] at e; subst e; simp [PyData.depth]
    | str x => simp [toD] at e; subst e; simp [PyData.depth]
theorem datO_small {h : List O} {o : Opd} {d : PyData} (e : datO h o = some d) : d.depth ≤ dDepth + 1 := by
  cases o with
  | inr w =>
    have a1 := toD_small dDepth e
    omega
  | inl ws =>
    unfold datO at e
    rw [Option.map_eq_some_iff] at e
    obtain ⟨ds, e1, rfl⟩ := e
    have key : toD h (dDepth + 1) (.slst ws) = some (.list ds) := by rw [toD, e1]; rfl
    exact toD_small (dDepth + 1) key
theorem keyD_reads {P : Program} {w : World} {h : Heap} (k : Key) (key : Value) (e : (mixKind P w).is k key = true) : Reads h key (keyD k) [] := by
  rcases keyIs_shape (k := k) (v := key) e with ⟨i, t, rfl, rfl⟩ | ⟨x, t, rfl, rfl⟩
  · exact .int i t
  · exact .str x t
section
variable {pins : List (Addr × Obj)} {σ : L2.St} {H : Hp} {s : Shared}
mutual
theorem DR.reads (I : Inv X pins σ H s) (sm : SmT X.K H) : ∀ (d : PyData) (v : V) (u : Value), DR X.K H v d → RelV v u → ∃ as, Reads s.heap u d as ∧ sysModules ∉ as
  | .none, _, _, h, r => by
    cases h
    cases r
    exact ⟨_, Reads.none, by simp⟩
  | .bool b, _, _, h, r => by
    cases h
    cases r
    exact ⟨_, Reads.bool b, by simp⟩
  | .int i, _, _, h, r => by
    cases h
    obtain ⟨t, rfl⟩ := r
    exact ⟨_, Reads.int i t, by simp⟩
  | .str x, _, _, h, r => by
    cases h
    obtain ⟨t, rfl⟩ := r
    exact ⟨_, Reads.str x t, by simp⟩
  | .list ds, _, _, h, r => by
    cases h with
    | lst hs ha =>
      cases r
      obtain ⟨its, rv, ⟨o, n, ho, hc, _, hd⟩, _⟩ := I.list hs
      obtain ⟨as, hr, hn⟩ := DRs.reads I sm ds _ its ha rv
      refine ⟨_, Reads.list ho hc hd hr, fun hm => ?_⟩
      rcases List.mem_cons.mp hm with e | hm
      · have q : ∃ o2 es n2, s.heap.get? sysModules = some o2 ∧ o2.data = .dict es n2 := by
          rcases sm with ⟨o2, u2, es, n2, e1, e2⟩ | ⟨o2, es, n2, e1, e2⟩
          · obtain ⟨p, _⟩ := (show ObjOk X.prog X.w H s.heap sysModules (.frz o2 u2) from I.hok _ _ e1)
            exact ⟨o2, es, n2, p, e2⟩
          · exact ⟨o2, es, n2, I.kIn _ _ e1, e2⟩
        obtain ⟨o2, es, n2, e3, e4⟩ := q
        rw [← e] at ho
        rw [ho] at e3
        cases e3
        rw [hd] at e4
        cases e4
      · exact hn hm
  | .tuple ds, _, _, h, r => by
    cases h with
    | tup hs ha =>
      cases r
      obtain ⟨its, rv, ⟨o, ho, hc, n, hd⟩, _⟩ := I.tuple hs
      obtain ⟨as, hr, hn⟩ := DRs.reads I sm ds _ its ha rv
      exact ⟨_, Reads.tuple ho hc hd hr, hn⟩
  | .dict ds, _, _, h, r => by
    cases h with
    | dct hs ha =>
      cases r
      obtain ⟨_, hd, vs, rel, dd⟩ := dk_rd I.hok hs
      obtain ⟨bs, hr, hn⟩ := DRk.reads I sm ds _ vs ha rel
      refine ⟨_, PyProof.V.reads_dictOf (enc := keyD) (fun k key e => keyD_reads k key e) dd hr, fun hm => ?_⟩
      rcases List.mem_cons.mp hm with e | hm
      · rw [← e] at hd; simp at hd
      · exact hn hm
theorem DRs.reads (I : Inv X pins σ H s) (sm : SmT X.K H) : ∀ (ds : List PyData) (vs : List V) (us : List Value), DRs X.K H vs ds → Vals vs us → ∃ as, ReadsAll s.heap us ds as ∧ sysModules ∉ as
  | [], _, _, h, r => by
    cases h
    cases r
    exact ⟨_, ReadsAll.nil, by simp⟩
  | d :: ds, _, _, h, r => by
    cases h with
    | cons h1 h2 =>
      cases r with
      | cons r1 r2 =>
        obtain ⟨as, q1, n1⟩ := DR.reads I sm d _ _ h1 r1
        obtain ⟨bs, q2, n2⟩ := DRs.reads I sm ds _ _ h2 r2
        exact ⟨_, ReadsAll.cons q1 q2, by rw [List.mem_append]; exact fun z => z.elim n1 n2⟩
theorem DRk.reads (I : Inv X pins σ H s) (sm : SmT X.K H) : ∀ (ds : List (PyData × PyData)) (m : List (Key × V)) (vs : List (Key × Value)), DRk X.K H m ds → KV m vs → ∃ as, PyProof.V.PairsRead s.heap keyD vs ds as ∧ sysModules ∉ as
  | [], _, _, h, r => by
    cases h
    cases r
    exact ⟨_, .nil, by simp⟩
  | (_, d) :: ds, _, _, h, r => by
    cases h with
    | cons h1 h2 =>
      cases r with
      | @cons _ q _ _ r1 r2 =>
        obtain ⟨k, u⟩ := q
        obtain ⟨e1, r1⟩ := r1
        dsimp only at e1 r1
        subst e1
        obtain ⟨as, q1, n1⟩ := DR.reads I sm d _ _ h1 r1
        obtain ⟨bs, q2, n2⟩ := DRk.reads I sm ds _ _ h2 r2
        exact ⟨_, .cons q1 q2, by rw [List.mem_append]; exact fun z => z.elim n1 n2⟩
end
end
/-- repr of data -/
theorem call_reprD {K : PySem.W.Frag} (hK : X.K = K) (hg : X.A.guards = some []) (hu : X.A.units + 64 < cLine) : CallR X (.builtin "repr") (fun xs H Q => ∃ v d, xs = [v] ∧ DR K H v d ∧ SmT K H ∧ d.showable = true ∧ d.shown.length ≤ sizeLine ∧ d.depth ≤ 60 ∧ Q (.str d.shown) H) := by
  intro pins s σ H xs us Q I r h
  obtain ⟨v, d, rfl, hd, sm, h1, h2, h3, q⟩ := h
  rw [← hK] at hd sm
  obtain ⟨u, rfl, ru⟩ := vals1 r
  obtain ⟨as, rd, hn⟩ := DR.reads I sm d v u hd ru
  have fin : ∀ (h' : Heap) (k : Tok) (tk : Nat), (∀ b o, s.heap.get? b = some o → h'.get? b = some o) → EP X pins σ Q (.str d.shown k) { s with heap := h', toks := tk } := fun h' k tk hk =>
    ⟨.str d.shown, H, I.kept (t' := tk) hk, ⟨k, rfl⟩, q⟩
  cases hd with
  | non =>
    cases (show u = Value.none from ru)
    have z := fin s.heap s.toks (s.toks + 1) fun _ _ e => e
    simp only [PyData.shown] at z
    exact PySem.P.repr_of_none z
  | bl b =>
    cases (show u = Value.bool b from ru)
    have z := fin s.heap s.toks (s.toks + 1) fun _ _ e => e
    simp only [PyData.shown] at z
    exact PySem.P.repr_of_bool z
  | int i =>
    obtain ⟨t, rfl⟩ := ru
    have z := fin s.heap s.toks (s.toks + 1) fun _ _ e => e
    simp only [PyData.shown] at z
    exact PySem.P.repr_of_int (by simpa [PyData.showable] using h1) z
  | str x =>
    obtain ⟨t, rfl⟩ := ru
    have z := fin s.heap s.toks (s.toks + 1) fun _ _ e => e
    simp only [PyData.shown] at z
    exact PySem.P.repr_of_str z (by simpa only [PyData.shown] using h2)
  | lst hs ha =>
    rename_i q' xs ds
    cases (show u = Value.ref q' from ru)
    exact repr_of_reads' rd h1 (fun _ => hn) hg (by omega) (fun _ _ e => e) (fun h' k tk hk => fin h' k tk hk) h2
  | tup hs ha =>
    rename_i q' xs ds
    cases (show u = Value.ref q' from ru)
    exact repr_of_reads' rd h1 (fun _ => hn) hg (by omega) (fun _ _ e => e) (fun h' k tk hk => fin h' k tk hk) h2
  | dct hs ha =>
    rename_i q' xs ds
    cases (show u = Value.ref q' from ru)
    exact repr_of_reads' rd h1 (fun _ => hn) hg (by omega) (fun _ _ e => e) (fun h' k tk hk => fin h' k tk hk) h2
theorem k_repr (F : Fc G C lvl c.fs) (g : Gx G lvl c X) (hgl : glB c "repr" = true) (hst : notStar a = true) (ha : OkE G Wx X sa a) :
    PE X (.Call (.Name "repr" p) [a] [] pos) (tV G Wx fun ℓ h => (sa.opd ℓ h).bind fun x h => reprO h x) := by
  refine PE.imp (pe_callB (call_reprD g.K g.gd g.hu) (g.gl hgl) (nm_blt F g (by decide)) (by decide +kernel) (a_one ha.o hst) (he := star_ok hst) (hpl := rfl)) fun σ H Q ⟨ι, hh, ℓ, r, lr, q⟩ => ?_
  refine ⟨ι, hh, ℓ, r, lr, q.bind.imp fun x h1 ι1 H1 s1 r1 p1 v hv => ?_⟩
  unfold reprO at p1
  split at p1
  · rename_i dd ed
    obtain ⟨cz, p1⟩ := p1.chk
    rw [Bool.and_eq_true] at cz
    have a1 := datO_small ed
    exact ⟨v, dd, rfl, dp_opd r1 hv ed, r1.sm, cz.1, of_decide_eq_true cz.2, by simp only [dDepth] at a1; omega, Wants.str p1 r1⟩
  · exact False.elim p1
end
end MP
set_option maxRecDepth 100000
set_option maxHeartbeats 4000000
namespace MP
open PySem PySem.Spec PyProof.Rows L2
section
variable {G : Pg} {lvl : Nat} {c : Ctx} {X : Cx} {Wx : WX} {C : Cn} {a b d e : Expr} {es : List Expr} {pos p p2 apos : Pos} {sa sb sc : Sm}

/-! ### isinstance, of built-in types -/
theorem ty_of {ι : List Addr} {H : Hp} {h : List O} {w : W} {v : V} {t : String} (r : Rel G h ι H) (hv : VR G H ι w v) (e : wType w h = some t) : TyX G.K H v (.type t) ∧ t ∈ ["NoneType", "bool", "int", "str", "tuple", "list", "dict"] := by
  cases hv with
  | non => cases e; exact ⟨.base .non, by decide⟩
  | bl b => cases e; exact ⟨.base (.bl b), by decide⟩
  | int i => cases e; exact ⟨.base (.int i), by decide⟩
  | str x => cases e; exact ⟨.base (.str x), by decide⟩
  | tup hs hr =>
    cases e
    refine ⟨?_, by decide⟩
    rcases hs with (hs | ⟨o, hs⟩) | ⟨o, its, n, h1, h2, _⟩
    · exact .base (.tup hs)
    · exact .fTuple hs
    · exact .kTuple h1 h2
  | slst hs hr =>
    cases e
    refine ⟨?_, by decide⟩
    rcases hs with ⟨o, hs⟩ | ⟨o, its, n, h1, rfl, _⟩
    · exact .base (.frz hs)
    · exact .kList h1 rfl
  | sdct hs hr => cases e; exact ⟨.fDict hs, by decide⟩
  | ref ha =>
    dsimp only [wType] at e
    split at e
    · cases e
      obtain ⟨vs, h1, _⟩ := r.obj _ _ _ (by assumption) ha
      exact ⟨.base (.lst h1), by decide⟩
    · cases e
      obtain ⟨vs, h1, _⟩ := r.obj _ _ _ (by assumption) ha
      exact ⟨.base (.dK h1), by decide⟩
    · cases e
theorem kit7 : ∀ t ∈ ["NoneType", "bool", "int", "str", "tuple", "list", "dict"], ∀ T ∈ tyNames, kitB t T = some (isiB t T) := by decide +kernel
theorem boot7 : ∀ T ∈ tyNames, bootBuiltins (Str.ofString T) = some (.type T) ∧ Str.ofString T ≠ "__name__" ∧ (Str.ofString T == ("__debug__" : Str)) = false ∧ Str.ofString T ∈ bltNames := by decide +kernel
theorem e_tyName {T : String} (F : Fc G C lvl c.fs) (g : Gx G lvl c X) (hT : T ∈ tyNames) (hgl : glB c T = true) : PE X (.Name T pos) (tC (.ty T)) := by
  obtain ⟨h1, h2, h3, h4⟩ := boot7 T hT
  exact pe_bltn (g.gl hgl) (nm_blt F g h4) h1 rfl h2 h3
theorem isiW_one {ι : List Addr} {H : Hp} {h : List O} {w : W} {v : V} {T : String} {σ : L2.St} {Q : VK} (hT : T ∈ tyNames) (r : Rel G h ι H) (hv : VR G H ι w v) (q : Post G Wx σ ι H (isiW [T] w h) (Wants Q G)) : rIsi G.K [v, .ty T] H Q := by
  unfold isiW at q
  split at q
  · rename_i t et
    obtain ⟨h1, h2⟩ := ty_of r hv et
    have q2 := Wants.bl q r
    rw [List.any_cons, List.any_nil, Bool.or_false] at q2
    exact ⟨v, _, _, _, _, rfl, .ty T, h1, kit_ty (kit7 t h2 T hT), q2⟩
  · exact False.elim q
theorem k_isi1 {T : String} {m : Lo → List O → R W} (F : Fc G C lvl c.fs) (g : Gx G lvl c X) (hgl : glB c "isinstance" = true) (hst : notStar a = true) (ha : PE X a (tV G Wx m)) (hT : T ∈ tyNames) (hglT : glB c T = true) :
    PE X (.Call (.Name "isinstance" p) [a, .Name T p2] [] pos) (tV G Wx fun ℓ h => (m ℓ h).bind fun w h => isiW [T] w h) := by
  refine PE.imp (pe_callB call_isi (g.gl hgl) (nm_blt F g (by decide)) (by decide +kernel) (pa_cons ha (pa_cons (e_tyName F g hT hglT) pa_nil (by rfl)) (star_ok hst)) (he := star_ok hst) (hpl := by rfl)) fun σ H Q ⟨ι, hh, ℓ, r, lr, q⟩ => ?_
  refine ⟨ι, hh, ℓ, r, lr, q.bind.imp fun w h1 ι1 H1 s1 r1 p1 v hv => ?_⟩
  rw [g.K]
  exact isiW_one hT r1 hv p1
theorem kitAny7 {K : PySem.W.Frag} {t : String} (ht : t ∈ ["NoneType", "bool", "int", "str", "tuple", "list", "dict"]) : ∀ {Ts : List String}, (∀ T ∈ Ts, T ∈ tyNames) → PySem.W.kitAny K (.type t) (Ts.map Value.type) = some (Ts.any fun T => isiB t T)
  | [], _ => rfl
  | T :: Ts, h => by
    rw [List.map_cons, List.any_cons]
    have ih := kitAny7 (K := K) ht (Ts := Ts) fun x hx => h x (List.mem_cons_of_mem _ hx)
    refine kitAny_cons (kit_ty (kit7 t ht T (h T List.mem_cons_self))) (fun e => ?_) fun e => ?_
    · rw [ih, e, Bool.false_or]
    · rw [e, Bool.true_or]
theorem clsAll : ∀ (Ts : List String), Paired ClsV (Ts.map V.ty) (Ts.map Value.type)
  | [] => .nil
  | T :: Ts => .cons (.ty T) (clsAll Ts)
/-- several type names as a tuple's items -/
def tyExprs : List String → List Pos → List Expr
  | T :: Ts, q :: qs => .Name T q :: tyExprs Ts qs
  | _, _ => []
theorem pa_tys {Ts : List String} (F : Fc G C lvl c.fs) (g : Gx G lvl c X) : ∀ {qs : List Pos}, Ts.length = qs.length → (∀ T ∈ Ts, T ∈ tyNames ∧ glB c T = true) → PA X (tyExprs Ts qs) (fun _ H Q => Q (Ts.map V.ty) H) := by
  induction Ts with
  | nil =>
    intro qs hl h
    cases qs <;> exact PA.imp pa_nil fun σ H Q q => q
  | cons T Ts ih =>
    intro qs hl h
    cases qs with
    | nil => cases hl
    | cons q qs =>
      obtain ⟨h1, h2⟩ := h T List.mem_cons_self
      exact PA.imp (pa_cons (e_tyName F g h1 h2) (ih (by simpa using hl) fun x hx => h x (List.mem_cons_of_mem _ hx)) (by rfl)) fun σ H Q q => q
theorem k_isiT {Ts : List String} {qs : List Pos} {k : Nat} {m : Lo → List O → R W} (F : Fc G C lvl c.fs) (g : Gx G lvl c X) (hgl : glB c "isinstance" = true) (hst : notStar a = true) (ha : PE X a (tV G Wx m)) (hl : Ts.length = qs.length) (hn : Ts.length ≤ sizeLine)
    (hT : ∀ T ∈ Ts, T ∈ tyNames ∧ glB c T = true) :
    PE X (.Call (.Name "isinstance" p) [a, .Tuple (tyExprs Ts qs) k p2] [] pos) (tV G Wx fun ℓ h => (m ℓ h).bind fun w h => isiW Ts w h) := by
  refine PE.imp (pe_callB call_isiT (g.gl hgl) (nm_blt F g (by decide)) (by decide +kernel) (pa_cons ha (pa_cons (pe_tup (pa_tys F g hl hT)) pa_nil (by rfl)) (star_ok hst)) (he := star_ok hst) (hpl := by rfl)) fun σ H Q ⟨ι, hh, ℓ, r, lr, q⟩ => ?_
  refine ⟨ι, hh, ℓ, r, lr, q.bind.imp fun w h1 ι1 H1 s1 r1 p1 v hv => ?_⟩
  refine ⟨by rw [List.length_map]; exact hn, fun t ht => ?_⟩
  rw [g.K]
  have s2 : Step ι1 H1 ι1 (upd H1 t (.tup (Ts.map V.ty))) := Step.new ht
  have r2 := r1.new (o := .tup (Ts.map V.ty)) ht
  have hv2 := hv.mono s2
  have p2 := p1.later s2
  unfold isiW at p2
  split at p2
  · rename_i tn et
    obtain ⟨h2, h3⟩ := ty_of r2 hv2 et
    exact ⟨v, t, _, _, _, _, rfl, upd_same, clsAll Ts, h2, kitAny7 h3 fun T h => (hT T h).1, Wants.bl p2 r2⟩
  · exact False.elim p2

/-! ### displays of dicts -/
theorem key_of {ι : List Addr} {H : Hp} {w : W} {v : V} {k : Key} (hv : VR G H ι w v) (e : keyW w = some k) : v = kV k := by
  cases hv <;> cases e <;> rfl
theorem FR.any {κ : Type} {ι : List Addr} {H : Hp} {f : κ → Bool} : ∀ {ws : List (κ × W)} {vs : List (κ × V)}, FR G H ι ws vs → (ws.any fun kv => f kv.1) = (vs.any fun kv => f kv.1)
  | _, _, .nil => rfl
  | _, _, .cons _ t => by rw [List.any_cons, List.any_cons, FR.any t]
theorem FR.append {κ : Type} {ι : List Addr} {H : Hp} : ∀ {ws ws' : List (κ × W)} {vs vs' : List (κ × V)}, FR G H ι ws vs → FR G H ι ws' vs' → FR G H ι (ws ++ ws') (vs ++ vs')
  | _, _, _, _, .nil, q => q
  | _, _, _, _, .cons r t, q => .cons r (FR.append t q)
theorem FR.length {κ : Type} {ι : List Addr} {H : Hp} : ∀ {ws : List (κ × W)} {vs : List (κ × V)}, FR G H ι ws vs → ws.length = vs.length
  | _, _, .nil => rfl
  | _, _, .cons r t => by rw [List.length_cons, List.length_cons, FR.length t]
theorem FR.upd {ι : List Addr} {H : Hp} {k : Key} {w : W} {v : V} (q : VR G H ι w v) : ∀ {ws : List (Key × W)} {vs : List (Key × V)}, FR G H ι ws vs → FR G H ι (ws.map (fun kv => if kv.1 = k then (kv.1, w) else kv)) (vs.map (fun kv => if kv.1 = k then (kv.1, v) else kv))
  | _, _, .nil => .nil
  | _, _, .cons (x := x) h t => by
    rw [List.map_cons, List.map_cons]
    by_cases hx : x = k
    · dsimp only; rw [if_pos hx, if_pos hx]; exact .cons q (FR.upd q t)
    · dsimp only; rw [if_neg hx, if_neg hx]; exact .cons h (FR.upd q t)
theorem FR.put {ι : List Addr} {H : Hp} {ws : List (Key × W)} {vs : List (Key × V)} {k : Key} {w : W} {v : V} (r : FR G H ι ws vs) (q : VR G H ι w v) : FR G H ι (putW ws k w) (putK vs k v) := by
  unfold putW putK
  rw [FR.any (f := fun x => decide (x = k)) r]
  split
  · exact FR.upd q r
  · exact r.append (.cons q .nil)
theorem FR.merge {ι : List Addr} {H : Hp} : ∀ {more : List (Key × W)} {vmore : List (Key × V)} {ws : List (Key × W)} {vs : List (Key × V)}, FR G H ι more vmore → FR G H ι ws vs → FR G H ι (mergeW ws more) (mergeK vs vmore)
  | _, _, _, _, .nil, q => q
  | _ :: more, _ :: vmore, ws, vs, .cons (x := x) (w := w) (v := v) r t, q => by
    show FR G H ι (mergeW (putW ws x w) more) (mergeK (putK vs x v) vmore)
    exact FR.merge t (q.put r)
/-- the pairs of a display -/
def tD (G : Pg) (Wx : WX) (m : Lo → List O → R (List (Key × W))) : L2.St → Hp → (List (V × V) → Hp → Prop) → Prop := fun σ H Q => ∃ ι h ℓ, Rel G h ι H ∧ LR G H ι ℓ σ ∧ Post G Wx σ ι H (m ℓ h) fun ws _ ι' H' => ∀ kvs, FR G H' ι' ws kvs → Q (kvs.map fun kv => (kV kv.1, kv.2)) H'
structure PD (X : Cx) (pos : Pos) (keys : List (Option Expr)) (values : List Expr) (t : L2.St → Hp → (List (V × V) → Hp → Prop) → Prop) : Prop where
  run : ∃ trs, PPs X pos keys values trs ∧ ∀ σ H Q, t σ H Q → tPairs trs σ H Q
theorem d_nil : PD X pos [] [] (tD G Wx fun _ h => .ok [] h) := ⟨[], pps_nil, fun σ H Q ⟨ι, hh, ℓ, r, lr, p⟩ => p.ok r [] .nil⟩
theorem d_cons {ks : List (Option Expr)} {vs : List Expr} {mk mv : Lo → List O → R W} {mr : Lo → List O → R (List (Key × W))} (hk : PE X a (tV G Wx mk)) (hv : PE X b (tV G Wx mv)) (hr : PD X pos ks vs (tD G Wx mr)) :
    PD X pos (some a :: ks) (b :: vs) (tD G Wx fun ℓ h => (mk ℓ h).bind fun x h => (mv ℓ h).bind fun y h => match keyW x with
    | some k => (mr ℓ h).bind fun kvs h => .ok ((k, y) :: kvs) h
    | none => .stuck) := by
  obtain ⟨trs, h1, h2⟩ := hr
  refine ⟨_, pps_cons hk hv h1, fun σ H Q ⟨ι, hh, ℓ, r, lr, p⟩ => ?_⟩
  refine ⟨ι, hh, ℓ, r, lr, p.bind.imp fun x h1 ι1 H1 s1 r1 p1 u hu => ?_⟩
  refine ⟨ι1, h1, ℓ, r1, lr.mono s1, p1.bind.imp fun y h3 ι2 H2 s2 r2 p2 v hv => ?_⟩
  split at p2
  · rename_i k ek
    refine h2 _ _ _ ⟨ι2, h3, ℓ, r2, (lr.mono s1).mono s2, p2.bind.imp fun kvs h4 ι3 H3 s3 r3 p3 kvs' hkvs => ?_⟩
    have z := p3.ok r3 ((k, v) :: kvs') (.cons (hv.mono s3) hkvs)
    rw [key_of hu ek]
    exact z
  · exact False.elim p2
theorem FR.mon' {κ : Type} {ι ι' : List Addr} {H H' : Hp} (m : Mon ι H ι' H') : ∀ {ws : List (κ × W)} {vs : List (κ × V)}, FR G H ι ws vs → FR G H' ι' ws vs
  | _, _, .nil => .nil
  | _, _, .cons r t => .cons (r.mon m) (FR.mon' m t)
theorem e_dct0 : PE X (.Dict [] [] pos) (tV G Wx fun _ h => (R.ok [] h : R (List (Key × W))).bind fun kvs h => chk (decide (kvs.length ≤ 15)) (alloc (.dct (mergeW [] kvs)) h)) := by
  refine PE.imp pe_dnewK fun σ H Q ⟨ι, hh, ℓ, r, lr, p⟩ D hD => ?_
  have p : Post G Wx σ ι H (alloc (.dct []) hh) (Wants Q G) := p
  exact post_alloc p (r.new hD) hD (r.fresh hD) (Step.new hD) ⟨[], upd_same, .nil⟩
theorem e_dct {keys : List (Option Expr)} {values : List Expr} {m : Lo → List O → R (List (Key × W))} (hd : PD X pos keys values (tD G Wx m)) (hall : keys.all (·.isSome) = true) (hl : keys.length = values.length) (h0 : keys ≠ []) (h15 : keys.length ≤ 15) :
    PE X (.Dict keys values pos) (tV G Wx fun ℓ h => (m ℓ h).bind fun kvs h => chk (decide (kvs.length ≤ 15)) (alloc (.dct (mergeW [] kvs)) h)) := by
  obtain ⟨trs, h1, h2⟩ := hd
  refine PE.imp (pe_disp h1 hall hl h0 h15) fun σ H Q ⟨ι, hh, ℓ, r, lr, p⟩ D hD => ?_
  have s0 : Step ι H ι (upd H D (.dK [])) := Step.new hD
  refine h2 _ _ _ ⟨ι, hh, ℓ, r.new hD, lr.mono s0, ?_⟩
  have p : Post G Wx σ ι H ((m ℓ hh).bind fun kvs h => chk (decide (kvs.length ≤ 15)) (alloc (.dct (mergeW [] kvs)) h)) (Wants Q G) := p
  refine (p.bind0.later s0).imp fun kvs h' ι1 H1 s1 r1 p vs hvs => ?_
  · obtain ⟨cz, p⟩ := p.chk
    have nD : D ∉ ι := r.fresh hD
    have eD : H1 D = some (.dK []) := s1.keep D _ upd_same nD
    have nD1 : D ∉ ι1 := fun hm => by
      obtain ⟨t, et, ht⟩ := s1.ext
      rw [et] at hm
      rcases List.mem_append.mp hm with hm | hm
      · exact nD hm
      · have z := ht D hm; rw [upd_same] at z; cases z
    refine ⟨eD, vs, rfl, by rw [← hvs.length]; exact of_decide_eq_true cz, ?_⟩
    obtain ⟨s2, m2⟩ := (s0.trans s1).apart (o := .dK (mergeK [] vs)) hD eD (fun z => z)
    have r2 : Rel G h' ι1 (upd H1 D (.dK (mergeK [] vs))) := r1.mon m2 fun a ha => upd_ne fun z => nD1 (by rw [← z]; exact ha)
    have p2 := p
    obtain ⟨t, et, ht⟩ := s2.ext
    have s3 : Step ι H (ι1 ++ [D]) (upd H1 D (.dK (mergeK [] vs))) := by
      refine ⟨⟨t ++ [D], by rw [et, List.append_assoc], fun a ha => ?_⟩, s2.keep, s2.there, s2.fix⟩
      rcases List.mem_append.mp ha with ha | ha
      · exact ht a ha
      · rw [List.mem_singleton.mp ha]; exact hD
    have q2 : Rel G (h' ++ [.dct (mergeW [] kvs)]) (ι1 ++ [D]) (upd H1 D (.dK (mergeK [] vs))) := r2.alloc nD1 ⟨_, upd_same, FR.mon' mon_app (FR.mon' m2 (FR.merge hvs .nil))⟩ .refl
    have p3 : Post G Wx σ ι H (.ok (.ref h'.length) (h' ++ [.dct (mergeW [] kvs)])) (Wants Q G) := p
    refine p3 _ _ s3 q2 _ (.ref ?_)
    rw [List.getElem?_append_right (by rw [r2.len]; exact Nat.le_refl _), r2.len, Nat.sub_self]
    rfl

theorem e_frd0 : PE X (.Dict [] [] pos) (tV G Wx fun _ h => (R.ok [] h : R (List (Key × W))).bind fun kvs h => chk (decide (kvs.length ≤ 15)) (.ok (.sdct (mergeW [] kvs)) h)) := by
  refine PE.imp (PE.lock pe_dnewK) fun σ H Q ⟨ι, hh, ℓ, r, lr, p⟩ D hD => .inr ⟨D, _, upd_same, trivial, fun od => ?_⟩
  have p : Post G Wx σ ι H (.ok (.sdct []) hh) (Wants Q G) := p
  rw [upd_upd]
  exact p ι _ (Step.new hD) (r.new hD) _ (.sdct (m := []) upd_same .nil)
theorem e_frd {keys : List (Option Expr)} {values : List Expr} {m : Lo → List O → R (List (Key × W))} (hd : PD X pos keys values (tD G Wx m)) (hall : keys.all (·.isSome) = true) (hl : keys.length = values.length) (h0 : keys ≠ []) (h15 : keys.length ≤ 15) :
    PE X (.Dict keys values pos) (tV G Wx fun ℓ h => (m ℓ h).bind fun kvs h => chk (decide (kvs.length ≤ 15)) (.ok (.sdct (mergeW [] kvs)) h)) := by
  obtain ⟨trs, h1, h2⟩ := hd
  refine PE.imp (PE.lock (pe_disp h1 hall hl h0 h15)) fun σ H Q ⟨ι, hh, ℓ, r, lr, p⟩ D hD => ?_
  have s0 : Step ι H ι (upd H D (.dK [])) := Step.new hD
  refine h2 _ _ _ ⟨ι, hh, ℓ, r.new hD, lr.mono s0, ?_⟩
  have p : Post G Wx σ ι H ((m ℓ hh).bind fun kvs h => chk (decide (kvs.length ≤ 15)) (.ok (.sdct (mergeW [] kvs)) h)) (Wants Q G) := p
  refine (p.bind0.later s0).imp fun kvs h' ι1 H1 s1 r1 p vs hvs => ?_
  · obtain ⟨cz, p⟩ := p.chk
    have nD : D ∉ ι := r.fresh hD
    have eD : H1 D = some (.dK []) := s1.keep D _ upd_same nD
    have nD1 : D ∉ ι1 := fun hm => by
      obtain ⟨t, et, ht⟩ := s1.ext
      rw [et] at hm
      rcases List.mem_append.mp hm with hm | hm
      · exact nD hm
      · have z := ht D hm; rw [upd_same] at z; cases z
    refine ⟨eD, vs, rfl, by rw [← hvs.length]; exact of_decide_eq_true cz, .inr ⟨D, _, upd_same, trivial, fun od => ?_⟩⟩
    rw [upd_upd]
    obtain ⟨s2, m2⟩ := (s0.trans s1).apart (o := .frz od (.dK (mergeK [] vs))) hD eD (fun z => z)
    exact p ι1 _ s2 (r1.mon m2 fun a ha => upd_ne fun z => nD1 (by rw [← z]; exact ha)) _ (.sdct upd_same (FR.vk (FR.mon' m2 (FR.merge hvs .nil))))

/-! ### methods of texts and lists -/
theorem k_join {m : Lo → List O → R W} (g : Gx G lvl c X) (ha : PE X a (tV G Wx m)) (hb : OkE G Wx X sb b) (hs : notStar b = true) (hsup : notSup a = true) (hline : (apos.endLine == pos.line) = true) :
    PE X (.Call (.Attribute a "join" apos) [b] [] pos) (tV G Wx fun ℓ h => (m ℓ h).bind fun x h => match x with
      | .str a => (sb.l ℓ h).bind fun ws h => joinR a ws h
      | _ => .stuck) := by
  refine PE.imp (pe_join ha hb.s (hs := star_ok hs) (hbase := sup_ok hsup) (hline := hline)) fun σ H Q ⟨ι, hh, ℓ, r, lr, p⟩ => ?_
  refine ⟨ι, hh, ℓ, r, lr, p.bind.imp fun x h1 ι1 H1 s1 r1 p1 u hu => ?_⟩
  split at p1
  · rename_i z
    cases hu
    refine ⟨⟨z, rfl⟩, ι1, h1, ℓ, r1, lr.mono s1, p1.bind.imp fun ws h2 ι2 H2 s2 r2 p2 t vs hs hr => ?_⟩
    unfold joinR at p2
    split at p2
    · rename_i ys ey
      obtain ⟨cz, p2⟩ := p2.chk
      have e := unStrs_ok ey
      subst e
      have e := hr.strs'
      subst e
      rw [g.K]
      exact ⟨z, t, ys, rfl, rfl, hs, of_decide_eq_true cz, Wants.str p2 r2⟩
    · exact False.elim p2
  · exact False.elim p1
theorem k_append {ma mb : Lo → List O → R W} (g : Gx G lvl c X) (ha : PE X a (tV G Wx ma)) (hb : PE X b (tV G Wx mb)) (hs : notStar b = true) (hsup : notSup a = true) (hline : (apos.endLine == pos.line) = true) :
    PE X (.Call (.Attribute a "append" apos) [b] [] pos) (tV G Wx fun ℓ h => (ma ℓ h).bind fun x h => chk (isLst h x) ((mb ℓ h).bind fun w h => bmV "append" x [w] h)) := by
  have hst : ([b] : List Expr).all notStar = true := by rw [List.all_cons, hs]; rfl
  refine PE.imp (pe_bm PySem.F.plainAttrs_list PySem.F.slot_list_append PySem.F.type_list_append mt_append ha (pa_cons hb pa_nil (star_ok hs)) (hbase := sup_ok hsup) (hfew := by rw [stars_all hst]; rfl) (hline := hline) (hs := star_ok hs) (hplain := by rfl)) fun σ H Q ⟨ι, hh, ℓ, r, lr, p⟩ => ?_
  refine ⟨ι, hh, ℓ, r, lr, p.bind.imp fun x h1 ι1 H1 s1 r1 p1 u hu => ?_⟩
  obtain ⟨cz, p1⟩ := p1.chk
  have hl : ∃ n ws, x = .ref n ∧ h1[n]? = some (.lst ws) := by
    unfold isLst at cz
    split at cz
    · split at cz
      · exact ⟨_, _, rfl, by assumption⟩
      · exact absurd cz Bool.false_ne_true
    · exact absurd cz Bool.false_ne_true
  obtain ⟨n, ws, rfl, en⟩ := hl
  cases hu with
  | ref ha =>
    obtain ⟨vs, e1, _⟩ := r1.obj _ _ _ en ha
    refine ⟨.inl ⟨rfl, vs, .of e1⟩, ι1, h1, ℓ, r1, lr.mono s1, p1.bind.imp fun w h2 ι2 H2 s2 r2 p2 v hv => ?_⟩
    have p2 : Post G Wx σ ι2 H2 (appR (.ref n) w h2) (Wants Q G) := p2
    unfold appR at p2
    dsimp only at p2
    split at p2
    · rename_i ws2 en2
      obtain ⟨cz, p2⟩ := p2.chk
      have ha2 := s2.get ha
      obtain ⟨vs2, e2, hr2⟩ := r2.obj _ _ _ en2 ha2
      refine ⟨_, vs2, v, rfl, rfl, e2, by rw [← hr2.length]; exact of_decide_eq_true cz, ?_⟩
      have st : Step ι2 H2 ι2 (upd H2 _ (.lst (vs2 ++ [v]))) := Step.set (List.mem_of_getElem? ha2) e2 (fun z => z)
      obtain ⟨r3, s3⟩ := r2.set (o' := .lst (ws2 ++ [w])) (u' := .lst (vs2 ++ [v])) en2 ha2 e2 (fun z => z) ⟨_, upd_same, (hr2.append (.cons hv .nil)).mono st⟩
      exact p2 ι2 _ s3 r3 _ .non
    · exact False.elim p2
end
end MP
set_option maxRecDepth 100000
set_option maxHeartbeats 4000000
namespace MP
open PySem PySem.Spec PyProof.Rows L2
section
variable {G : Pg} {lvl : Nat} {c : Ctx} {X : Cx} {Wx : WX} {C : Cn} {a b d e tg : Expr} {es : List Expr} {pos p p2 apos : Pos} {sa sb sc : Sm}
abbrev WF : WX := fun _ _ _ _ => False
theorem Post.noX {α : Type} {σ σ' : L2.St} {ι : List Addr} {H : Hp} {r : R α} {k : α → List O → List Addr → Hp → Prop} (p : Post G Wx σ ι H (noX r) k) : Post G WF σ' ι H r k := by
  cases r with
  | ok a h => exact p
  | exc x h => exact False.elim p
  | stuck => exact p
theorem Post.anyX {α : Type} {σ σ' : L2.St} {ι : List Addr} {H : Hp} {r : R α} {k : α → List O → List Addr → Hp → Prop} (p : Post G WF σ ι H r k) : Post G Wx σ' ι H r k := by
  cases r with
  | ok a h => exact p
  | exc x h => exact fun ι' H' cls d s q x => False.elim (p ι' H' cls d s q x)
  | stuck => exact p
theorem Step.notin {ι ι' : List Addr} {H H' : Hp} (s : Step ι H ι' H') {D : Addr} (hD : H D ≠ none) (n : D ∉ ι) : D ∉ ι' := fun hm => by
  obtain ⟨t, et, ht⟩ := s.ext
  rw [et] at hm
  rcases List.mem_append.mp hm with hm | hm
  · exact n hm
  · exact hD (ht D hm)

/-! ### targets -/
/-- σ' is σ but at the slots T -/
structure Sle (T : List Nat) (σ σ' : L2.St) : Prop where
  len : σ'.length = σ.length
  out : ∀ j, j ∉ T → σ'[j]? = σ[j]?
theorem Sle.refl {T : List Nat} {σ : L2.St} : Sle T σ σ := ⟨rfl, fun _ _ => rfl⟩
theorem Sle.trans {T U : List Nat} {σ σ1 σ2 : L2.St} (a : Sle T σ σ1) (b : Sle U σ1 σ2) : Sle (T ++ U) σ σ2 :=
  ⟨b.len.trans a.len, fun j h => by rw [b.out j fun z => h (List.mem_append_right _ z), a.out j fun z => h (List.mem_append_left _ z)]⟩
theorem wipe_in {σ : L2.St} {j : Nat} : ∀ {vs : List Nat}, j ∈ vs → j < σ.length → (wipe σ vs)[j]? = some none
  | v :: vs, h, hl => by
    unfold wipe
    by_cases hv : v = j
    · subst hv
      rw [List.getElem?_set_self (by rw [wipe_length]; exact hl)]
    · rw [List.getElem?_set_ne hv]
      rcases List.mem_cons.mp h with h | h
      · exact absurd h.symm hv
      · exact wipe_in h hl
theorem Sle.wipe {T own : List Nat} {σ σ' : L2.St} (a : Sle T (wipe σ own) σ') (h : ∀ i ∈ T, i ∈ own) : L2.wipe σ' own = L2.wipe σ own := by
  have hl : σ'.length = σ.length := by rw [a.len, wipe_length]
  refine List.ext_getElem? fun j => ?_
  by_cases hj : j ∈ own
  · by_cases hlt : j < σ.length
    · rw [wipe_in hj hlt, wipe_in hj (by rw [hl]; exact hlt)]
    · rw [List.getElem?_eq_none (by rw [wipe_length]; omega), List.getElem?_eq_none (by rw [wipe_length]; omega)]
  · rw [wipe_out hj, a.out j fun z => hj (h j z)]
def tG (G : Pg) (T : List Nat) (m : Tg) : TG := fun v σ H Q => ∃ ι h ℓ w, Rel G h ι H ∧ LR G H ι ℓ σ ∧ VR G H ι w v ∧ Post G WF σ ι H (m w ℓ h) fun ℓ' _ ι' H' => ∀ σ', LR G H' ι' ℓ' σ' → Sle T σ σ' → Q σ' H'
def tGs (G : Pg) (T : List Nat) (m : Tgs) : TGs := fun vs σ H Q => ∃ ι h ℓ ws, Rel G h ι H ∧ LR G H ι ℓ σ ∧ VRs G H ι ws vs ∧ Post G WF σ ι H (m ws ℓ h) fun ℓ' _ ι' H' => ∀ σ', LR G H' ι' ℓ' σ' → Sle T σ σ' → Q σ' H'
theorem g_name {i : Nat} {x : Str} (g : Gx G lvl c X) (hN : c.N[i]? = some x) (hs : setB c x = true) : PG X (.Name x pos) (tG G [i] fun w ℓ h => .ok (ℓ.set i (some w)) h) := by
  obtain ⟨h1, h2⟩ := g.set hs
  refine PG.imp (pg_name (i := i) (by rw [g.N]; exact g.nd) (by rw [g.N]; exact hN) h1 h2) fun v σ H Q ⟨ι, hh, ℓ, w, r, lr, hv, p⟩ => ?_
  refine p.ok r _ (lr.set hv) ⟨by rw [List.length_set], fun j hj => ?_⟩
  rw [List.getElem?_set_ne (fun z => hj (by rw [z]; exact List.mem_singleton_self _))]
theorem gs_nil : PGs X [] (tGs G [] fun ws ℓ h => match ws with
    | [] => .ok ℓ h
    | _ => .stuck) := by
  refine PGs.imp pgs_nil fun vs σ H Q ⟨ι, hh, ℓ, ws, r, lr, hv, p⟩ => ?_
  cases hv with
  | nil => exact ⟨rfl, Post.ok (k := fun ℓ' _ ι' H' => ∀ σ', LR G H' ι' ℓ' σ' → Sle [] σ σ' → Q σ' H') p r _ lr .refl⟩
  | cons _ _ => exact False.elim p
theorem assign_ok {t : Expr} {ts : List Expr} {env : Env} (h : notStar t = true) : assignEach (t :: ts) env = (false, assign t env) :: assignEach ts env := by
  cases t <;> first | rfl | exact absurd h Bool.false_ne_true
theorem assign_len {env : Env} : ∀ {ts : List Expr}, ts.all notStar = true → (assignEach ts env).length = ts.length ∧ (assignEach ts env).findIdx? (·.1) = none
  | [], _ => ⟨rfl, rfl⟩
  | t :: ts, h => by
    rw [List.all_cons, Bool.and_eq_true] at h
    obtain ⟨h1, h2⟩ := assign_len (env := env) h.2
    rw [assign_ok h.1]
    refine ⟨by rw [List.length_cons, List.length_cons, h1], ?_⟩
    rw [List.findIdx?_cons, h2]
    rfl
theorem gs_cons {T U : List Nat} {m : Tg} {ms : Tgs} {ts : List Expr} (hs : notStar a = true) (ha : PG X a (tG G T m)) (hr : PGs X ts (tGs G U ms)) : PGs X (a :: ts) (tGs G (T ++ U) fun ws ℓ h => match ws with
    | w :: ws => (noX (m w ℓ h)).bind fun ℓ h => ms ws ℓ h
    | [] => .stuck) := by
  refine PGs.imp (pgs_cons ha hr (by rw [assign_ok hs]; rfl)) fun vs σ H Q ⟨ι, hh, ℓ, ws, r, lr, hv, p⟩ => ?_
  cases hv with
  | nil => exact False.elim p
  | @cons w v ws vs h1 h2 =>
    have p : Post G WF σ ι H ((noX (m w ℓ hh)).bind fun ℓ h => ms ws ℓ h) _ := p
    refine ⟨v, vs, rfl, ι, hh, ℓ, w, r, lr, h1, (Post.noX p.bind).imp fun ℓ1 h1' ι1 H1 s1 r1 p1 σ1 lr1 sl1 => ?_⟩
    refine ⟨ι1, h1', ℓ1, ws, r1, lr1, h2.mono s1, (Post.anyX p1).imp fun ℓ2 h2' ι2 H2 s2 r2 p2 σ2 lr2 sl2 => p2 σ2 lr2 (sl1.trans sl2)⟩
theorem PG.or {t t' : TG} (h : PG X tg t) (h' : PG X tg t') : PG X tg (fun v σ H Q => t v σ H Q ∨ t' v σ H Q) := ⟨fun pins s σ H v u Q I r q => by
  rcases q with q | q
  · exact h.run pins s σ H v u Q I r q
  · exact h'.run pins s σ H v u Q I r q⟩
theorem evts_len {m : Tgs} {n : Nat} : True := trivial
theorem g_tup {T : List Nat} {ms : Tgs} {ts : List Expr} {k : Nat} (g : Gx G lvl c X) (hst : ts.all notStar = true) (hlen : ∀ ws ℓ h, ws.length ≠ ts.length → ∀ σ ι H kk, ¬ Post G WF σ ι H (ms ws ℓ h) kk) (hr : PGs X ts (tGs G T ms)) : PG X (.Tuple ts k pos) (tG G T fun w ℓ h => match seqW h w with
    | some ws => ms ws ℓ h
    | none => .stuck) := by
  obtain ⟨e1, e2⟩ := assign_len (env := X.env) hst
  refine PG.imp (PG.or (pg_lst g.calm hr e1 e2) (pg_tup g.calm hr e1 e2)) fun v σ H Q ⟨ι, hh, ℓ, w, r, lr, hv, p⟩ => ?_
  have p : Post G WF σ ι H (match seqW hh w with
    | some ws => ms ws ℓ hh
    | none => .stuck) _ := p
  cases es : seqW hh w with
  | none => rw [es] at p; exact False.elim p
  | some ws =>
    rw [es] at p
    have p : Post G WF σ ι H (ms ws ℓ hh) _ := p
    obtain ⟨q, vs, rfl, hsq, hv2⟩ := seq_of r hv es
    have hl : ws.length = ts.length := by
      by_cases z : ws.length = ts.length
      · exact z
      · exact absurd p (hlen ws ℓ hh z σ ι H _)
    rw [g.K]
    rcases hsq with hsq | hsq
    · exact .inl ⟨q, vs, rfl, hsq, by rw [← hv2.length]; exact hl, ι, hh, ℓ, ws, r, lr, hv2, p⟩
    · exact .inr ⟨q, vs, rfl, hsq, by rw [← hv2.length]; exact hl, ι, hh, ℓ, ws, r, lr, hv2, p⟩
theorem g_sub {ma mb : Lo → List O → R W} (hs : notSlice b = true) (ha : PE X a (tV G Wx ma)) (hb : PE X b (tV G Wx mb)) :
    PG X (.Subscript a b pos) (tG G [] fun w ℓ h => (ma ℓ h).bind fun x h => (mb ℓ h).bind fun y h => (setSub x y w h).bind fun _ h => .ok ℓ h) := by
  refine PG.imp (pg_sub ha hb set_list (ha := by intro v; cases b <;> first | rfl | exact absurd hs Bool.false_ne_true)) fun v σ H Q ⟨ι, hh, ℓ, w, r, lr, hv, p⟩ => ?_
  refine ⟨ι, hh, ℓ, r, lr, (Post.anyX p.bind).imp fun x h1 ι1 H1 s1 r1 p1 u hu => ?_⟩
  refine ⟨ι1, h1, ℓ, r1, lr.mono s1, (Post.anyX p1.bind).imp fun y h2 ι2 H2 s2 r2 p2 z hz => ?_⟩
  have p3 := p2.bind
  unfold setSub at p3
  split at p3
  · rename_i n k
    split at p3
    · rename_i ws en
      split at p3
      · rename_i j ej
        cases hz
        cases (hu.mono s2) with
        | ref ha2 =>
          obtain ⟨vs2, e2, hr2⟩ := r2.obj _ _ _ en ha2
          refine ⟨_, vs2, k, j, rfl, rfl, e2, by rw [← hr2.length]; exact ej, ?_⟩
          have st : Step ι2 H2 ι2 (upd H2 _ (.lst (vs2.set j v))) := Step.set (List.mem_of_getElem? ha2) e2 (fun z => z)
          have hv2 := (hv.mono s1).mono s2
          obtain ⟨r3, s3⟩ := r2.set (o' := .lst (ws.set j w)) (u' := .lst (vs2.set j v)) en ha2 e2 (fun z => z) ⟨_, upd_same, VRs.set (hv2.mono st) j (hr2.mono st)⟩
          exact (p3 ι2 _ s3 r3).ok r3 _ ((lr.mono s1).mono (s2.trans s3)) .refl
      · exact False.elim p3
    · exact False.elim p3
  · exact False.elim p3

/-! ### what is walked -/
structure WalkW (G : Pg) (J : It) (ws : List W) (gs : Gd) (ι0 : List Addr) (H0 : Hp) : Prop where
  goes : ∀ (i : Nat) (w : W) (h : List O) (ι : List Addr) (H : Hp), Step ι0 H0 ι H → Rel G h ι H → gsOk h gs = true → ws[i]? = some w → J.go i H
  stops : ∀ (h : List O) (ι : List Addr) (H : Hp), Step ι0 H0 ι H → Rel G h ι H → gsOk h gs = true → J.stop ws.length H
  yields : ∀ (i : Nat) (w : W) (h : List O) (ι : List Addr) (H : Hp) (x : V) (H' : Hp), Step ι0 H0 ι H → Rel G h ι H → gsOk h gs = true → ws[i]? = some w → J.yld i H x H' → Step ι H ι H' ∧ Rel G h ι H' ∧ VR G H' ι w x
def tI (G : Pg) (Wx : WX) (m : Lo → List O → R (List W × Gd)) : TI := fun σ H R => ∃ ι h ℓ, Rel G h ι H ∧ LR G H ι ℓ σ ∧ Post G Wx σ ι H (m ℓ h) fun r _ ι0 H0 => ∀ J, WalkW G J r.1 r.2 ι0 H0 → R J H0
/-- a list, as long as it stands -/
def Keeps (G : Pg) (H0 : Hp) (ι0 : List Addr) (gs : Gd) (q : Addr) (ws : List W) (P : Hp → List V → Prop) : Prop :=
  ∀ (h : List O) (ι : List Addr) (H : Hp), Step ι0 H0 ι H → Rel G h ι H → gsOk h gs = true → ∃ vs, P H vs ∧ VRs G H ι ws vs
theorem gsOk_mem {h : List O} {gs : Gd} {n : Nat} {ws : List W} (e : gsOk h gs = true) (m : (n, ws) ∈ gs) : h[n]? = some (.lst ws) := by
  have z := List.all_eq_true.mp e _ m
  unfold gOk at z
  dsimp only at z
  split at z
  · rename_i ws' ew
    rw [ew, W.beqs_eq z]
  · exact absurd z Bool.false_ne_true
/-- an operand that is walked: a list -/
theorem keeps_list {ι0 : List Addr} {H0 : Hp} {h0 : List O} {o : Opd} {v : V} {st : Bool} {σ : L2.St} {k : List W × Gd → List O → List Addr → Hp → Prop} (ho : OpdR G H0 ι0 o v) (r0 : Rel G h0 ι0 H0)
    (p : Post G Wx σ ι0 H0 (seqO st h0 o) k) : (∃ ws gs, k (ws, gs) h0 ι0 H0 ∧ tupO o = false ∧ ∃ q vs0, v = .ref q ∧ SqL G.K H0 q vs0 ∧ ∀ gs', (∀ x : Nat × List W, x ∈ gs → x ∈ gs') → Keeps G H0 ι0 gs' q ws (fun H vs => SqL G.K H q vs))
    ∨ (∃ ws gs, k (ws, gs) h0 ι0 H0 ∧ tupO o = true ∧ ∃ q vs0, v = .ref q ∧ SqT G.K H0 q vs0 ∧ ∀ gs', Keeps G H0 ι0 gs' q ws (fun H vs => SqT G.K H q vs))
    ∨ (st = true ∧ ∃ x, v = .str x ∧ k (chars x, []) h0 ι0 H0) := by
  unfold seqO at p
  split at p
  · obtain ⟨D, vs, rfl, eD, nD, hr⟩ := ho
    exact .inl ⟨_, _, p.ok r0, rfl, D, vs, rfl, .of eD, fun gs' _ h ι H s r _ => ⟨vs, .of (s.keep D _ eD nD), hr.mono s⟩⟩
  · cases (show VR G H0 ι0 _ v from ho) with
    | tup hs hr => exact .inr (.inl ⟨_, _, p.ok r0, rfl, _, _, rfl, hs, fun gs' h ι H s r _ => ⟨_, s.sqT hs, hr.mono s⟩⟩)
  · cases (show VR G H0 ι0 _ v from ho) with
    | slst hs hr => exact .inl ⟨_, _, p.ok r0, rfl, _, _, rfl, hs.sql, fun gs' _ h ι H s r _ => ⟨_, (s.stL hs).sql, hr.mono s⟩⟩
  · cases (show VR G H0 ι0 _ v from ho) with
    | str x =>
      cases st with
      | true => exact .inr (.inr ⟨rfl, _, rfl, p.ok r0⟩)
      | false => exact False.elim p
  · cases (show VR G H0 ι0 _ v from ho) with
    | ref ha =>
      split at p
      · rename_i ws en
        obtain ⟨vs, h1, h2⟩ := r0.sql en ha
        refine .inl ⟨_, _, p.ok r0, rfl, _, vs, rfl, h1, fun gs' hg h ι H s r e => ?_⟩
        exact r.sql (gsOk_mem e (hg _ (List.mem_singleton_self _))) (s.get ha)
      · exact False.elim p
  · exact False.elim p
theorem walk_itl {ι0 : List Addr} {H0 : Hp} {ws : List W} {gs : Gd} {q : Addr} (hk : Keeps G H0 ι0 gs q ws (fun H vs => SqL G.K H q vs)) : WalkW G (Itl G.K q) ws gs ι0 H0 := by
  refine ⟨fun i w h ι H s r e ew => ?_, fun h ι H s r e => ?_, fun i w h ι H x H' s r e ew y => ?_⟩
  · obtain ⟨vs, h1, h2⟩ := hk h ι H s r e
    obtain ⟨v, e1, _⟩ := h2.get ew
    exact ⟨vs, v, h1, e1⟩
  · obtain ⟨vs, h1, h2⟩ := hk h ι H s r e
    exact ⟨vs, h1, by rw [h2.length]; exact Nat.le_refl _⟩
  · obtain ⟨vs, h1, h2⟩ := hk h ι H s r e
    obtain ⟨v, e1, e2⟩ := h2.get ew
    obtain ⟨rfl, y⟩ := y
    have z := y vs h1
    rw [e1] at z
    cases z
    exact ⟨.refl, r, e2⟩
theorem walk_itt {ι0 : List Addr} {H0 : Hp} {ws : List W} {gs : Gd} {q : Addr} (hk : Keeps G H0 ι0 gs q ws (fun H vs => SqT G.K H q vs)) : WalkW G (Itt G.K q) ws gs ι0 H0 := by
  refine ⟨fun i w h ι H s r e ew => ?_, fun h ι H s r e => ?_, fun i w h ι H x H' s r e ew y => ?_⟩
  · obtain ⟨vs, h1, h2⟩ := hk h ι H s r e
    obtain ⟨v, e1, _⟩ := h2.get ew
    exact ⟨vs, v, h1, e1⟩
  · obtain ⟨vs, h1, h2⟩ := hk h ι H s r e
    exact ⟨vs, h1, by rw [h2.length]; exact Nat.le_refl _⟩
  · obtain ⟨vs, h1, h2⟩ := hk h ι H s r e
    obtain ⟨v, e1, e2⟩ := h2.get ew
    obtain ⟨rfl, y⟩ := y
    have z := y vs h1
    rw [e1] at z
    cases z
    exact ⟨.refl, r, e2⟩
theorem walk_its {ι0 : List Addr} {H0 : Hp} {gs : Gd} {z : Str} : WalkW G (Its z) (chars z) gs ι0 H0 := by
  refine ⟨fun i w h ι H s r e ew => ?_, fun h ι H s r e => ?_, fun i w h ι H x H' s r e ew y => ?_⟩
  · have := (List.getElem?_eq_some_iff.mp ew).1
    unfold chars at this
    rw [List.length_map, Array.length_toList] at this
    exact this
  · show z.cps.size ≤ _
    unfold chars
    rw [List.length_map, Array.length_toList]
    exact Nat.le_refl _
  · obtain ⟨rfl, cc, e1, rfl⟩ := y
    refine ⟨.refl, r, ?_⟩
    unfold chars at ew
    rw [List.getElem?_map, Array.getElem?_toList, e1] at ew
    cases ew
    exact .str _
def iSeq (K : PySem.W.Frag) (tl : TE) : TI := fun σ H R => tl σ H fun x H1 => (∃ a, x = .ref a ∧ (∃ xs, SqL K H1 a xs) ∧ R (Itl K a) H1) ∨ (∃ a, x = .ref a ∧ (∃ xs, SqT K H1 a xs) ∧ R (Itt K a) H1) ∨ ∃ z, x = .str z ∧ R (Its z) H1
theorem pi_seq {l : Expr} {tl : TE} (hl : PE X l tl) : PI X tg l (iSeq X.K tl) := by
  refine ⟨fun pins s σ H R I h => ?_⟩
  refine thn (hl.run pins s σ H _ I h) fun v s1 ⟨x, H1, I1, r1, q1⟩ => ?_
  rcases q1 with ⟨a, e, ⟨xs, hq⟩, q⟩ | ⟨a, e, ⟨xs, hq⟩, q⟩ | ⟨z, e, q⟩
  · subst e
    cases r1
    obtain ⟨its, rv, p, hz⟩ := I1.list hq
    refine wpAny_pyIter_list p.isList ?_
    refine ⟨s1.heap.objs.size, [s1.heap.objs.size], _, _, H1, rfl, I1.kept (t' := s1.toks) fun b o e => Heap.get?_push_of_some _ e, turn_list a _, ⟨_, Heap.get?_push_size _ rfl, rfl, rfl⟩, fun b hb => ?_, q⟩
    have e : b = s1.heap.objs.size := by simpa using hb
    subst e
    exact I1.fpOk (Nat.le_refl _) (I1.hok.fresh (Nat.le_refl _))
  · subst e
    cases r1
    obtain ⟨its, rv, p, hz⟩ := I1.tuple hq
    refine wpAny_pyIter_tuple (show s1.heap.IsTuple a its.toArray from p) ?_
    refine ⟨s1.heap.objs.size, [s1.heap.objs.size], _, _, H1, rfl, I1.kept (t' := s1.toks) fun b o e => Heap.get?_push_of_some _ e, turn_tuple a _, ⟨_, Heap.get?_push_size _ rfl, rfl, rfl⟩, fun b hb => ?_, q⟩
    have e : b = s1.heap.objs.size := by simpa using hb
    subst e
    exact I1.fpOk (Nat.le_refl _) (I1.hok.fresh (Nat.le_refl _))
  · subst e
    obtain ⟨t, rfl⟩ := r1
    cases ha : z.cps.all (· < 128)
    · exact wpAny_pyIter_wide ha (pi_one (tk := s1.toks) I1 _ (turn_str _ z t "str_iterator" (.inr rfl)) ⟨_, Heap.get?_push_size _ rfl, rfl, rfl⟩ q)
    · exact wpAny_pyIter_ascii ha (pi_one (tk := s1.toks) I1 _ (turn_str _ z t "str_ascii_iterator" (.inl rfl)) ⟨_, Heap.get?_push_size _ rfl, rfl, rfl⟩ q)
theorem i_val (g : Gx G lvl c X) (ha : OkE G Wx X sa a) : PI X tg a (tI G Wx fun ℓ h => (sa.opd ℓ h).bind fun x h => seqO true h x) := by
  refine PI.imp (pi_seq ha.o) fun σ H R ⟨ι, hh, ℓ, r, lr, p⟩ => ?_
  refine ⟨ι, hh, ℓ, r, lr, (Post.bind p).imp fun x h1 ι1 H1 s1 r1 p1 v hv => ?_⟩
  rw [g.K]
  rcases keeps_list hv r1 p1 with ⟨ws, gs, k, _, q, vs, rfl, h1, h2⟩ | ⟨ws, gs, k, _, q, vs, rfl, h1, h2⟩ | ⟨_, x, rfl, k⟩
  · exact .inl ⟨q, rfl, ⟨vs, h1⟩, k _ (walk_itl (h2 gs fun x hx => hx))⟩
  · exact .inr (.inl ⟨q, rfl, ⟨vs, h1⟩, k _ (walk_itt (h2 gs))⟩)
  · exact .inr (.inr ⟨x, rfl, k _ walk_its⟩)
theorem walk_itr {ι0 : List Addr} {H0 : Hp} {gs : Gd} {lo : Int} {n : Nat} : WalkW G (Itr lo n) (rngL lo n) gs ι0 H0 := by
  have hl : (rngL lo n).length = n := by unfold rngL; simp
  refine ⟨fun i w h ι H s r e ew => ?_, fun h ι H s r e => ?_, fun i w h ι H x H' s r e ew y => ?_⟩
  · have := (List.getElem?_eq_some_iff.mp ew).1
    rw [hl] at this
    exact this
  · rw [hl]; exact Nat.le_refl _
  · obtain ⟨rfl, rfl⟩ := y
    refine ⟨.refl, r, ?_⟩
    have hi := (List.getElem?_eq_some_iff.mp ew).1
    rw [hl] at hi
    unfold rngL at ew
    rw [List.getElem?_map, List.getElem?_range hi] at ew
    cases ew
    exact .int _
theorem rng_of {i : Int} (h : rngOk i = true) : -(2 ^ 62) ≤ i ∧ i < 2 ^ 62 := of_decide_eq_true h
theorem i_range1 {m : Lo → List O → R W} (F : Fc G C lvl c.fs) (g : Gx G lvl c X) (hgl : glB c "range" = true) (hst : notStar a = true) (ha : PE X a (tV G Wx m)) :
    PI X tg (.Call (.Name "range" p) [a] [] pos) (tI G Wx fun ℓ h => ((m ℓ h).bind fun w h => (R.ok [] h : R (List W)).bind fun ws h => .ok (w :: ws) h).bind fun ws h => rngM ws h) := by
  refine PI.imp (pi_range1 (g.gl hgl) (nm_blt F g (by decide)) (pa_cons ha pa_nil (star_ok hst)) (hs := star_ok hst)) fun σ H R' ⟨ι, hh, ℓ, r, lr, p⟩ => ?_
  refine ⟨ι, hh, ℓ, r, lr, (Post.bind (Post.bind p)).imp fun w h1 ι1 H1 s1 r1 p1 v hv => ?_⟩
  have p1 : Post G Wx σ ι1 H1 (rngM [w] h1) (fun r _ ι0 H0 => ∀ J, WalkW G J r.1 r.2 ι0 H0 → R' J H0) := Post.ok (a := [w]) p1 r1
  unfold rngM at p1
  cases hv <;> first
    | exact False.elim p1
    | skip
  obtain ⟨cz, p1⟩ := Post.chk p1
  obtain ⟨c1, c2⟩ := rng_of cz
  exact ⟨_, rfl, c1, c2, p1.ok r1 _ walk_itr⟩
theorem i_range2 {m n : Lo → List O → R W} (F : Fc G C lvl c.fs) (g : Gx G lvl c X) (hgl : glB c "range" = true) (hst : notStar a = true) (hst2 : notStar b = true) (ha : PE X a (tV G Wx m)) (hb : PE X b (tV G Wx n)) :
    PI X tg (.Call (.Name "range" p) [a, b] [] pos) (tI G Wx fun ℓ h => ((m ℓ h).bind fun w h => ((n ℓ h).bind fun w h => (R.ok [] h : R (List W)).bind fun ws h => .ok (w :: ws) h).bind fun ws h => .ok (w :: ws) h).bind fun ws h => rngM ws h) := by
  refine PI.imp (pi_range2 (g.gl hgl) (nm_blt F g (by decide)) (pa_cons ha (pa_cons hb pa_nil (star_ok hst2)) (star_ok hst)) (hs := by rw [star_ok hst, star_ok hst2]; rfl) (hs2 := by rw [star_ok hst2]; rfl)) fun σ H R' ⟨ι, hh, ℓ, r, lr, p⟩ => ?_
  refine ⟨ι, hh, ℓ, r, lr, (Post.bind (Post.bind p)).imp fun w h1 ι1 H1 s1 r1 p1 v hv => ?_⟩
  refine ⟨ι1, h1, ℓ, r1, lr.mono s1, (Post.bind (Post.bind p1)).imp fun w2 h2 ι2 H2 s2 r2 p2 u hu => ?_⟩
  have p2 : Post G Wx σ ι2 H2 (rngM [w, w2] h2) (fun r _ ι0 H0 => ∀ J, WalkW G J r.1 r.2 ι0 H0 → R' J H0) := Post.ok (Post.ok (a := [w2]) p2 r2) r2
  unfold rngM at p2
  cases hv <;> first
    | exact False.elim p2
    | skip
  cases hu <;> first
    | exact False.elim p2
    | skip
  obtain ⟨cz, p2⟩ := Post.chk p2
  rw [Bool.and_eq_true] at cz
  obtain ⟨c1, c2⟩ := rng_of cz.1
  obtain ⟨c3, c4⟩ := rng_of cz.2
  exact ⟨_, _, rfl, ⟨c1, c2, c3, c4⟩, p2.ok r2 _ walk_itr⟩
theorem Keeps.mono {H0 H1 : Hp} {ι0 ι1 : List Addr} {gs : Gd} {q : Addr} {ws : List W} {P : Hp → List V → Prop} (k : Keeps G H0 ι0 gs q ws P) (s : Step ι0 H0 ι1 H1) : Keeps G H1 ι1 gs q ws P := fun h ι H s2 r e => k h ι H (s.trans s2) r e
theorem zip_get {xs ys : List W} {i : Nat} {w : W} : (zipW xs ys)[i]? = some w → ∃ x y, xs[i]? = some x ∧ ys[i]? = some y ∧ w = .tup [x, y] := by
  induction xs generalizing ys i with
  | nil => intro h; simp [zipW] at h
  | cons x xs ih =>
    cases ys with
    | nil => intro h; simp [zipW] at h
    | cons y ys =>
      intro h
      cases i with
      | zero => simp [zipW] at h; exact ⟨x, y, rfl, rfl, h.symm⟩
      | succ i => exact ih (by simpa [zipW] using h)
theorem zip_len {xs ys : List W} : xs.length ≤ (zipW xs ys).length ∨ ys.length ≤ (zipW xs ys).length := by
  induction xs generalizing ys with
  | nil => exact .inl (Nat.zero_le _)
  | cons x xs ih =>
    cases ys with
    | nil => exact .inr (Nat.zero_le _)
    | cons y ys =>
      simp only [zipW, List.length_cons]
      rcases ih (ys := ys) with h | h
      · exact .inl (by omega)
      · exact .inr (by omega)
theorem pair_new {h : List O} {ι : List Addr} {H : Hp} {T : Addr} {x y : V} {w w2 : W} (r : Rel G h ι H) (hT : H T = none) (hx : VR G H ι w x) (hy : VR G H ι w2 y) :
    Step ι H ι (upd H T (.tup [x, y])) ∧ Rel G h ι (upd H T (.tup [x, y])) ∧ VR G (upd H T (.tup [x, y])) ι (.tup [w, w2]) (.ref T) :=
  ⟨Step.new hT, r.new hT, .tup (.of upd_same) (.cons (hx.mono (Step.new hT)) (.cons (hy.mono (Step.new hT)) .nil))⟩
theorem walk_zip {ι0 : List Addr} {H0 : Hp} {xs ys : List W} {gs : Gd} {q q2 : Addr} (h1 : Keeps G H0 ι0 gs q xs (fun H vs => SqL G.K H q vs)) (h2 : Keeps G H0 ι0 gs q2 ys (fun H vs => SqL G.K H q2 vs)) : WalkW G (Itz G.K q q2) (zipW xs ys) gs ι0 H0 := by
  refine ⟨fun i w h ι H s r e ew => ?_, fun h ι H s r e => ?_, fun i w h ι H x H' s r e ew y => ?_⟩
  · obtain ⟨vs, a1, a2⟩ := h1 h ι H s r e
    obtain ⟨us, b1, b2⟩ := h2 h ι H s r e
    obtain ⟨x, y, e1, e2, rfl⟩ := zip_get ew
    obtain ⟨v, c1, _⟩ := a2.get e1
    obtain ⟨u, d1, _⟩ := b2.get e2
    exact ⟨vs, us, v, u, a1, b1, c1, d1⟩
  · obtain ⟨vs, a1, a2⟩ := h1 h ι H s r e
    obtain ⟨us, b1, b2⟩ := h2 h ι H s r e
    refine ⟨vs, us, a1, b1, ?_⟩
    rw [← a2.length, ← b2.length]
    exact zip_len
  · obtain ⟨vs, a1, a2⟩ := h1 h ι H s r e
    obtain ⟨us, b1, b2⟩ := h2 h ι H s r e
    obtain ⟨x', y', e1, e2, rfl⟩ := zip_get ew
    obtain ⟨v, c1, c2⟩ := a2.get e1
    obtain ⟨u, d1, d2⟩ := b2.get e2
    obtain ⟨T, xv, yv, rfl, hT, rfl, z1, z2⟩ := y
    have z1 := z1 vs a1
    rw [c1] at z1; cases z1
    have z2 := z2 us b1
    rw [d1] at z2; cases z2
    exact pair_new r hT c2 d2
theorem walk_zipT {ι0 : List Addr} {H0 : Hp} {xs ys : List W} {gs : Gd} {q q2 : Addr} (h1 : Keeps G H0 ι0 gs q xs (fun H vs => SqT G.K H q vs)) (h2 : Keeps G H0 ι0 gs q2 ys (fun H vs => SqT G.K H q2 vs)) : WalkW G (RZ.ItzT G.K q q2) (zipW xs ys) gs ι0 H0 := by
  refine ⟨fun i w h ι H s r e ew => ?_, fun h ι H s r e => ?_, fun i w h ι H x H' s r e ew y => ?_⟩
  · obtain ⟨vs, a1, a2⟩ := h1 h ι H s r e
    obtain ⟨us, b1, b2⟩ := h2 h ι H s r e
    obtain ⟨x, y, e1, e2, rfl⟩ := zip_get ew
    obtain ⟨v, c1, _⟩ := a2.get e1
    obtain ⟨u, d1, _⟩ := b2.get e2
    exact ⟨vs, us, v, u, a1, b1, c1, d1⟩
  · obtain ⟨vs, a1, a2⟩ := h1 h ι H s r e
    obtain ⟨us, b1, b2⟩ := h2 h ι H s r e
    refine ⟨vs, us, a1, b1, ?_⟩
    rw [← a2.length, ← b2.length]
    exact zip_len
  · obtain ⟨vs, a1, a2⟩ := h1 h ι H s r e
    obtain ⟨us, b1, b2⟩ := h2 h ι H s r e
    obtain ⟨x', y', e1, e2, rfl⟩ := zip_get ew
    obtain ⟨v, c1, c2⟩ := a2.get e1
    obtain ⟨u, d1, d2⟩ := b2.get e2
    obtain ⟨T, xv, yv, rfl, hT, rfl, z1, z2⟩ := y
    have z1 := z1 vs a1
    rw [c1] at z1; cases z1
    have z2 := z2 us b1
    rw [d1] at z2; cases z2
    exact pair_new r hT c2 d2
theorem enum_get {xs : List W} {k i : Nat} {w : W} : (enumW k xs)[i]? = some w → ∃ x, xs[i]? = some x ∧ w = .tup [.int ((k + i : Nat) : Int), x] := by
  induction xs generalizing k i with
  | nil => intro h; simp [enumW] at h
  | cons x xs ih =>
    intro h
    cases i with
    | zero => simp [enumW] at h; exact ⟨x, rfl, h.symm⟩
    | succ i =>
      obtain ⟨y, h1, h2⟩ := ih (k := k + 1) (i := i) (by simpa [enumW] using h)
      exact ⟨y, h1, by rw [h2, show k + 1 + i = k + (i + 1) by omega]⟩
theorem enum_len {xs : List W} {k : Nat} : (enumW k xs).length = xs.length := by
  induction xs generalizing k with
  | nil => rfl
  | cons x xs ih => simp [enumW, ih]
theorem walk_enum {ι0 : List Addr} {H0 : Hp} {xs : List W} {gs : Gd} {q : Addr} (h1 : Keeps G H0 ι0 gs q xs (fun H vs => SqL G.K H q vs)) : WalkW G (Ite G.K q) (enumW 0 xs) gs ι0 H0 := by
  refine ⟨fun i w h ι H s r e ew => ?_, fun h ι H s r e => ?_, fun i w h ι H x H' s r e ew y => ?_⟩
  · obtain ⟨vs, a1, a2⟩ := h1 h ι H s r e
    obtain ⟨x, e1, rfl⟩ := enum_get ew
    obtain ⟨v, c1, _⟩ := a2.get e1
    exact ⟨vs, v, a1, c1⟩
  · obtain ⟨vs, a1, a2⟩ := h1 h ι H s r e
    exact ⟨vs, a1, by rw [enum_len, a2.length]; exact Nat.le_refl _⟩
  · obtain ⟨vs, a1, a2⟩ := h1 h ι H s r e
    obtain ⟨x', e1, rfl⟩ := enum_get ew
    obtain ⟨v, c1, c2⟩ := a2.get e1
    obtain ⟨T, xv, rfl, hT, rfl, z1⟩ := y
    have z1 := z1 vs a1
    rw [c1] at z1; cases z1
    rw [Nat.zero_add]
    exact pair_new r hT (.int _) c2
theorem i_zip {elts : List Expr} {kk : Nat} {tpos : Pos} (F : Fc G C lvl c.fs) (g : Gx G lvl c X) (hgl : glB c "zip" = true) (hst : notStar a = true) (hst2 : notStar b = true) (ha : OkE G Wx X sa a) (hb : OkE G Wx X sb b) :
    PI X (.Tuple elts kk tpos) (.Call (.Name "zip" p) [a, b] [] pos) (tI G Wx fun ℓ h => (sa.opd ℓ h).bind fun x h => (sb.opd ℓ h).bind fun y h => chk (tupO x == tupO y) ((seqO false h x).bind fun xs h => (seqO false h y).bind fun ys h => .ok (zipW xs.1 ys.1, xs.2 ++ ys.2) h)) := by
  refine PI.imp (RZ.pi_zipA (g.gl hgl) (nm_blt F g (by decide)) (pa_cons ha.o (pa_cons hb.o pa_nil (star_ok hst2)) (star_ok hst)) (hs := star_ok hst) (hpl := stars_ok (es := [b]) (by rw [List.all_cons, hst2]; rfl))) fun σ H R' ⟨ι, hh, ℓ, r, lr, p⟩ => ?_
  refine ⟨ι, hh, ℓ, r, lr, (Post.bind p).imp fun x h1 ι1 H1 s1 r1 p1 u hu => ?_⟩
  refine ⟨ι1, h1, ℓ, r1, lr.mono s1, (Post.bind p1).imp fun y h2 ι2 H2 s2 r2 p2 v hv => ?_⟩
  obtain ⟨cz, p2⟩ := p2.chk
  rw [g.K]
  rcases keeps_list (hu.mono s2) r2 p2.bind with ⟨ws, gs, k, e1, q, vs, rfl, hq, hk⟩ | ⟨ws, gs, k, e1, q, vs, rfl, hq, hk⟩ | ⟨z, _⟩
  · rcases keeps_list hv r2 k.bind with ⟨ws2, gs2, k2, e2, q2, vs2, rfl, hq2, hk2⟩ | ⟨ws2, gs2, k2, e2, q2, vs2, rfl, hq2, hk2⟩ | ⟨z, _⟩
    · exact ⟨q, q2, vs, vs2, rfl, .inl ⟨hq, hq2, k2.ok r2 _ (walk_zip (hk _ fun x hx => List.mem_append_left _ hx) (hk2 _ fun x hx => List.mem_append_right _ hx))⟩⟩
    · rw [e1, e2] at cz; cases cz
    · cases z
  · rcases keeps_list hv r2 k.bind with ⟨ws2, gs2, k2, e2, q2, vs2, rfl, hq2, hk2⟩ | ⟨ws2, gs2, k2, e2, q2, vs2, rfl, hq2, hk2⟩ | ⟨z, _⟩
    · rw [e1, e2] at cz; cases cz
    · exact ⟨q, q2, vs, vs2, rfl, .inr ⟨hq, hq2, k2.ok r2 _ (walk_zipT (hk _) (hk2 _))⟩⟩
    · cases z
  · cases z
theorem i_enum {elts : List Expr} {kk : Nat} {tpos : Pos} (F : Fc G C lvl c.fs) (g : Gx G lvl c X) (hgl : glB c "enumerate" = true) (hst : notStar a = true) (ha : OkE G Wx X sa a) :
    PI X (.Tuple elts kk tpos) (.Call (.Name "enumerate" p) [a] [] pos) (tI G Wx fun ℓ h => (sa.opd ℓ h).bind fun x h => chk (!tupO x) ((seqO false h x).bind fun xs h => .ok (enumW 0 xs.1, xs.2) h)) := by
  refine PI.imp (pi_enum (g.gl hgl) (nm_blt F g (by decide)) (pa_cons ha.o pa_nil (star_ok hst)) (hs := star_ok hst)) fun σ H R' ⟨ι, hh, ℓ, r, lr, p⟩ => ?_
  refine ⟨ι, hh, ℓ, r, lr, (Post.bind p).imp fun x h1 ι1 H1 s1 r1 p1 u hu => ?_⟩
  obtain ⟨cz, p1⟩ := p1.chk
  rw [g.K]
  rcases keeps_list hu r1 p1.bind with ⟨ws, gs, k, e1, q, vs, rfl, hq, hk⟩ | ⟨ws, gs, k, e1, q, vs, rfl, hq, hk⟩ | ⟨z, _⟩
  · exact ⟨q, vs, rfl, hq, k.ok r1 _ (walk_enum (hk _ fun x hx => hx))⟩
  · rw [e1] at cz; cases cz
  · cases z

/-! ### comprehensions -/
def relN (outer names : List (Str × NameKind)) : List (Str × NameKind) := names.map fun (n, k) => if (k == .free && outer.lookup n == some .cell) then (n, .cell) else (n, k)
def Ctx.blk (c : Ctx) (scope : Scope) : Ctx := { c with names := relN c.names scope.names, sets := scope.names }
theorem Gx.blk {scope : Scope} (g : Gx G lvl c X) (hk : scope.kind = .function) (s : Shared) (H : Hp) (A0 : Addr) (cl : List (Str × Addr)) (fp : List Addr) : Gx G lvl (c.blk scope) (X.blk s H scope (compEnvC scope cl A0 X.env) fp) := by
  have hn : (relS scope X.env.scope).names = relN c.names scope.names := by
    unfold relS relN
    rw [g.kd, g.nm]
    refine List.map_congr_left fun ⟨n, k⟩ _ => ?_
    have e : (ScopeKind.function == ScopeKind.function) = true := rfl
    simp only [e, Bool.and_true]
  refine ⟨g.prog, g.w, g.K, g.mg, g.base, g.N, g.nd, hn, hk, fun x hx => ?_, g.calm, g.room, g.gd⟩
  have hx : scope.names.lookup x = some .local ∨ scope.names.lookup x = some .cell := hx
  rcases hx with hx | hx
  · have z := lookup_relS_keep (sc := X.env.scope) (k := .local) (fun z => nomatch z) hx
    exact ⟨.inl z, .inr z⟩
  · have z := lookup_relS_keep (sc := X.env.scope) (k := .cell) (fun z => nomatch z) hx
    refine ⟨.inr z, .inl ?_⟩
    show (scope.names.lookup x == some .cell) = true
    rw [hx]; rfl
def lcF (mt : Tg) (mf : Lo → List O → R Bool) (me : Lo → List O → R W) (ℓ0 : Lo) : W → List O → R (Option W) := fun w h => (mt w ℓ0 h).bind fun ℓ2 h => (mf ℓ2 h).bind fun k h =>
      if k = true then (me ℓ2 h).bind fun y h => .ok (some y) h else .ok none h
theorem e_lcomp {elt iter : Expr} {ifs : List Expr} {scope : Scope} {own : List (Str × Nat)} {T : List Nat} {mi : Lo → List O → R (List W × Gd)} {mt : Tg} {mf : Lo → List O → R Bool} {me : Lo → List O → R W} (g : Gx G lvl c X)
    (hi : PI X tg iter (tI G Wx mi)) (ok : BlkOk X.N X.env.scope scope own) (hT : ∀ i ∈ T, i ∈ own.map (·.2))
    (hg : ∀ (s : Shared) (H : Hp) (A0 : Addr) (cl : List (Str × Addr)) (fp : List Addr), PG (X.blk s H scope (compEnvC scope cl A0 X.env) fp) tg (tG G T mt))
    (ht : ∀ (s : Shared) (H : Hp) (A0 : Addr) (cl : List (Str × Addr)) (fp : List Addr), PTs (X.blk s H scope (compEnvC scope cl A0 X.env) fp) ifs (tT G WF mf))
    (he : ∀ (s : Shared) (H : Hp) (A0 : Addr) (cl : List (Str × Addr)) (fp : List Addr), PE (X.blk s H scope (compEnvC scope cl A0 X.env) fp) elt (tV G WF me)) :
    ∀ σ H Q, tL G Wx (fun ℓ h => (mi ℓ h).bind fun r h => lcLoop (lcF mt mf me (wipeL ℓ (own.map (·.2)))) r.2 0 r.1 h) σ H Q → tLc (tI G Wx mi) (tG G T mt) (tT G WF mf) (tV G WF me) (own.map (·.2)) σ H Q := by
  intro σ H Q ⟨ι, hh, ℓ, r, lr, p⟩
  refine ⟨ι, hh, ℓ, r, lr, (Post.bind0 p).imp fun rr h1 ι1 H1 s1 r1 p1 J wk D hD => ?_⟩
  obtain ⟨ws, gs⟩ := rr
  have hD0 : H D = none := s1.back hD
  have nD1 : D ∉ ι1 := r1.fresh hD
  have sD : Step ι H ι1 (upd H1 D (.lst [])) := s1.trans (Step.new hD)
  refine ⟨fun i m H2 => ∃ ι2 h2 acc accW, Step ι H ι2 H2 ∧ Step ι1 H1 ι2 H2 ∧ Rel G h2 ι2 H2 ∧ D ∉ ι2 ∧ H2 D = some (.lst acc) ∧ VRs G H2 ι2 accW acc ∧ i ≤ ws.length ∧ m = ws.length - i ∧
    Post G Wx σ ι H (lcLoop (lcF mt mf me (wipeL ℓ (own.map (·.2)))) gs accW.length (ws.drop i) h2) (fun rest _ ι' H' => ∀ vs, H' D = some (.lst vs) → D ∉ ι' → VRs G H' ι' (accW ++ rest) vs → Q (.ref D) H'), ⟨ws.length, ι1, h1, [], [], sD, Step.new hD, r1.new hD, nD1, upd_same, .nil, Nat.zero_le _, by simp, ?_⟩, ?_⟩
  · exact p1.imp fun rest h' ι' H' s' r' k vs e n hv => k D vs hD0 n e hv
  · rintro i m H2 ⟨ι2, h2, acc, accW, sb, s2, r2, nD, eD, hacc, hi', rfl, p2⟩
    by_cases hlt : i < ws.length
    · have hw : ws[i]? = some ws[i] := by simp [hlt]
      rw [List.drop_eq_getElem_cons hlt] at p2
      unfold lcLoop at p2
      obtain ⟨cg, p2⟩ := p2.chk
      refine .inr ⟨wk.goes i _ h2 ι2 H2 s2 r2 cg hw, fun H3 => ∃ m', m' < ws.length - i ∧ ∃ ι2 h2 acc accW, Step ι H ι2 H3 ∧ Step ι1 H1 ι2 H3 ∧ Rel G h2 ι2 H3 ∧ D ∉ ι2 ∧ H3 D = some (.lst acc) ∧ VRs G H3 ι2 accW acc ∧ i + 1 ≤ ws.length ∧ m' = ws.length - (i + 1) ∧
        Post G Wx σ ι H (lcLoop (lcF mt mf me (wipeL ℓ (own.map (·.2)))) gs accW.length (ws.drop (i + 1)) h2) (fun rest _ ι' H' => ∀ vs, H' D = some (.lst vs) → D ∉ ι' → VRs G H' ι' (accW ++ rest) vs → Q (.ref D) H'), fun H' z => z, fun x H3 y => ?_⟩
      obtain ⟨s3, r3, hx⟩ := wk.yields i _ h2 ι2 H2 x H3 s2 r2 cg hw y
      have p3 : Post G WF (wipe σ (own.map (·.2))) ι2 H3 (lcF mt mf me (wipeL ℓ (own.map (·.2))) ws[i] h2) _ := (Post.noX p2.bind0).later (sb.trans s3)
      refine ⟨ι2, h2, _, _, r3, (lr.mono (sb.trans s3)).wipe _, hx, (Post.bind p3).imp fun ℓ4 h4 ι4 H4 s4 r4 p4 σ4 lr4 sl4 => ?_⟩
      refine ⟨sl4.wipe hT, ι4, h4, ℓ4, r4, lr4, (Post.anyX (Post.bind p4)).imp fun k h5 ι5 H5 s5 r5 p5 => ?_⟩
      have nD3 := s3.notin (by rw [eD]; exact fun z => nomatch z) nD
      have eD3 := s3.keep D _ eD nD
      have nD4 := s4.notin (by rw [eD3]; exact fun z => nomatch z) nD3
      have eD4 := s4.keep D _ eD3 nD3
      have nD5 := s5.notin (by rw [eD4]; exact fun z => nomatch z) nD4
      have eD5 := s5.keep D _ eD4 nD4
      have sx5 : Step ι2 H2 ι5 H5 := (s3.trans s4).trans s5
      cases k with
      | true =>
        rw [if_pos rfl] at p5
        refine iteT ⟨ι5, h5, ℓ4, r5, lr4.mono s5, (Post.anyX (Post.bind p5)).imp fun yw h6 ι6 H6 s6 r6 p6 yv hy => ?_⟩
        have nD6 := s6.notin (by rw [eD5]; exact fun z => nomatch z) nD5
        have eD6 := s6.keep D _ eD5 nD5
        have p7 := p6.ok r6
        obtain ⟨ck, p7⟩ := p7.chk
        have hlen := hacc.length
        refine ⟨acc, eD6, by rw [← hlen]; exact of_decide_eq_true ck, ws.length - (i + 1), by omega, ?_⟩
        have sx6 : Step ι2 H2 ι6 H6 := sx5.trans s6
        obtain ⟨sa, ma⟩ := (sb.trans sx6).apart (o := .lst (acc ++ [yv])) hD0 eD6 (fun z => z)
        obtain ⟨sa1, _⟩ := (s2.trans sx6).apart (o := .lst (acc ++ [yv])) hD eD6 (fun z => z)
        refine ⟨ι6, h6, acc ++ [yv], accW ++ [yw], sa, sa1, r6.mon ma fun a ha => upd_ne fun z => nD6 (by rw [← z]; exact ha), nD6, upd_same, (((hacc.mono sx6).append (.cons hy .nil)).mon ma), by omega, rfl, ?_⟩
        rw [List.length_append, List.length_singleton]
        refine p7.bind0.imp fun rest h' ι' H' s' r' k vs e n hv => ?_
        exact k ι' H' s' r' vs e n (by rw [List.append_assoc] at hv; exact hv)
      | false =>
        rw [if_neg Bool.false_ne_true] at p5
        have p7 := p5.ok r5
        exact iteF ⟨ws.length - (i + 1), by omega, ι5, h5, acc, accW, sb.trans sx5, s2.trans sx5, r5, nD5, eD5, hacc.mono sx5, by omega, rfl, p7⟩
    · have e : i = ws.length := by omega
      subst e
      rw [List.drop_length] at p2
      unfold lcLoop at p2
      obtain ⟨cg, p2⟩ := p2.chk
      refine .inl ⟨wk.stops h2 ι2 H2 s2 r2 cg, p2 ι2 H2 sb r2 acc eD nD (by rw [List.append_nil]; exact hacc)⟩
end
end MP
set_option maxRecDepth 100000
set_option maxHeartbeats 4000000
namespace MP
open PySem PySem.Spec PyProof.Rows L2
section
variable {G : Pg} {lvl : Nat} {c : Ctx} {X : Cx} {Wx : WX} {C : Cn} {a b d e : Expr} {es : List Expr} {pos p apos : Pos} {sa sb sc : Sm}
/-! ### calls with keywords -/
theorem kw_ok {env : Env} {pos : Pos} : ∀ {kws : List Keyword} {ks : List Str}, kws.map (·.arg) = ks.map some → (backToKw pos (keywordEach kws env)).all (·.1.isSome) = true ∧ (backToKw pos (keywordEach kws env)).filterMap (·.1) = ks ∧ (backToKw pos (keywordEach kws env)).any (·.1.isNone) = false
  | [], [], _ => ⟨rfl, rfl, rfl⟩
  | [], _ :: _, h => nomatch h
  | _ :: _, [], h => nomatch h
  | ⟨n, e, q⟩ :: kws, k :: ks, h => by
    rw [List.map_cons, List.map_cons, List.cons.injEq] at h
    obtain ⟨h1, h2⟩ := h
    dsimp only at h1
    subst h1
    obtain ⟨a1, a2, a3⟩ := kw_ok (env := env) (pos := pos) h2
    have e0 : backToKw pos (keywordEach (⟨some k, e, q⟩ :: kws) env) = (some k, do let v ← eval e env; standAt pos; pure v) :: backToKw pos (keywordEach kws env) := rfl
    rw [e0, List.all_cons, List.filterMap_cons, List.any_cons, a1, a3]
    dsimp only
    rw [a2]
    exact ⟨rfl, rfl, rfl⟩
theorem callw {fv : Value} {first : List Value} {xs : List Expr} {kws : List Keyword} {ks : List Str} {ta tk : TA} {pins : List (Addr × Obj)} {σ : L2.St} {H : Hp} {s : Shared} {Q : Value → Shared → Prop} (hk : PySem.W.keepIn X.K fv = true) (hst : xs.all notStar = true) (hn : kws.map (·.arg) = ks.map some)
    (ha : PA X xs ta) (h0 : xs = [] → ∀ σ H Q, ta σ H Q → Q [] H) (hb : PK X kws tk) (I : Inv X pins σ H s)
    (h : ta σ H fun vs H1 => tk σ H1 fun zs H2 => ∀ us ws s2, Inv X pins σ H2 s2 → Vals vs us → Vals zs ws → wpAny (model X.prog X.w) X.A (call fv (first ++ us) (ks.zip ws)) Q X.xe s2) :
    wpAny (model X.prog X.w) X.A (callWith pos fv first (backTo pos (starEach xs X.env)) (backToKw pos (keywordEach kws X.env))) Q X.xe s := by
  obtain ⟨k1, k2, k3⟩ := kw_ok (env := X.env) (pos := pos) hn
  cases xs with
  | nil =>
    have h := h0 rfl _ _ _ h
    refine PySem.W.callWith_KW0 (h₀ := X.base) I.ok.mod.kin hk k1 (thn (hb.run pos pins s σ H _ I h) fun ws s2 ⟨zs, H2, I2, rz, q⟩ => ⟨I2.kIn, ?_⟩) (by rw [k3]; rfl)
    rw [k2]
    exact q [] ws s2 I2 .nil rz
  | cons x xs =>
    rw [List.all_cons, Bool.and_eq_true] at hst
    refine PySem.W.callWith_KW (h₀ := X.base) I.ok.mod.kin hk k1 (thn (ha.run pos pins s σ H _ I h) fun us s1 ⟨vs, H1, I1, r, q⟩ => ?_) (by rw [k3, Bool.or_false]; exact stars_ok (by rw [List.all_cons, hst.1, hst.2]; rfl)) (star_ok hst.1)
    refine thn (hb.run pos pins s1 σ H1 _ I1 q) fun ws s2 ⟨zs, H2, I2, rz, q2⟩ => ⟨I2.kIn, ?_⟩
    rw [k2]
    exact q2 us ws s2 I2 r rz
/-- a call of a known def with values -/
theorem run_gk (g : Gx G lvl c X) (tk : Takes X Wx) {l : Nat} (hl : l ≤ lvl) {f : Str} {fa : Addr} {n : Nat} {ks : List Str} {ar : List Ar} {m : List W → List O → R W} (T : Tgt G l m f n ks ar) (hfa : G.adr f = some fa) {pins : List (Addr × Obj)} {σ : L2.St} {H : Hp} {s : Shared} {Q : VK} {us ws : List Value} {vs zs : List V} {ι : List Addr} {h : List O} {xs : List W}
    (I : Inv X pins σ H s) (r : Vals vs us) (rz : Vals zs ws) (l1 : xs.length = n + ks.length) (l2 : vs.length = n) (rel : Rel G h ι H) (hv : VRs G H ι xs (vs ++ zs)) (q : Post G Wx σ ι H (m (arr xs ar) h) (Wants Q G)) :
    wpAny (model X.prog X.w) X.A (call (.ref fa) us (ks.zip ws)) (EP X pins σ Q) X.xe s := by
  obtain ⟨fa', fd, ps, e1, _, ⟨gg, gV, kb, hg⟩, F, hlen⟩ := T.ex
  rw [hfa] at e1
  cases e1
  have l3 : zs.length = ks.length := by
    have z := hv.length
    rw [List.length_append] at z
    omega
  have kin : G.K.In s.heap := by have z := I.kIn; rw [g.K] at z; exact z
  have hv2 := hg H ι xs vs zs l2 l3 hv
  have e0 : Env0 G.P G.w G.K G.mg G.base X.A X.stack s H := by
    have z := I.env0
    rw [g.prog, g.w, g.K, g.mg, g.base] at z
    exact z
  have sp : spI G m ps.length (gV vs zs) H Q (WE Wx σ) := by
    refine ⟨?_, ι, h, arr xs ar, rel, hv2, q.reσ⟩
    by_cases z : (arr xs ar).length = ps.length
    · rw [← hv2.length]; exact z
    · rw [hlen _ h z] at q
      exact False.elim q
  have run := F.run X.A X.stack s H ⟨us, ks.zip ws⟩ (gg us ws) (gV vs zs) Q (WE Wx σ) (g.room.mono hl) g.gd e0 (kb.to s us ws kin (r.length.symm.trans l2) (rz.length.symm.trans l3)) (kb.rel r rz) sp
  rw [← g.prog, ← g.w] at run
  refine wpAny_call (codeAny_mono run fun res s' hq => ?_)
  cases res with
  | error er => exact passAt tk σ pins H s er s' I hq
  | ok fl =>
    cases fl with
    | ret u => exact I.after hq
    | next => exact False.elim hq
    | brk => exact False.elim hq
    | cont => exact False.elim hq
theorem Post.reσ0 {α : Type} {σ σ' : L2.St} {ι : List Addr} {H : Hp} {r : R α} {k : α → List O → List Addr → Hp → Prop} (q : Post G WF σ' ι H r k) : Post G WF σ ι H r k := by
  cases r with
  | ok a h' => exact q
  | exc x h' => exact q
  | stuck => exact q
theorem Post.callA {σ : L2.St} {ι : List Addr} {H : Hp} {m : Str → List W → List O → R W} {fm : Str → Nat → List Str → Option (List Ar)} {f : Str} {n : Nat} {ks : List Str} {xs : List W} {h : List O} {k : W → List O → List Addr → Hp → Prop}
    (p : Post G Wx σ ι H (MP.callA m fm f n ks xs h) k) : ∃ ar, fm f n ks = some ar ∧ xs.length = n + ks.length ∧ Post G Wx σ ι H (m f (arr xs ar) h) k := by
  unfold MP.callA at p
  split at p
  · rename_i ar e
    obtain ⟨c1, p⟩ := p.chk
    exact ⟨ar, e, of_decide_eq_true c1, p⟩
  · exact False.elim p
/-- f(.., k = ..) -/
theorem e_callf {f : Str} {kws : List Keyword} {ks : List Str} {ms mk : Lo → List O → R (List W)} (F : Fc G C lvl c.fs) (g : Gx G lvl c X) (tk : Takes X Wx) (hgl : glB c f = true) (hd : debB f = true) (hst : es.all notStar = true) (hn : kws.map (·.arg) = ks.map some) (ha : PA X es (tA G Wx ms))
    (h0 : es = [] → ∀ ℓ h, ms ℓ h = .ok [] h) (hb : PK X kws (tA G Wx mk)) :
    PE X (.Call (.Name f p) es kws pos) (tV G Wx fun ℓ h => chk (C.kn f) ((ms ℓ h).bind fun ws h => (mk ℓ h).bind fun zs h => callA C.call C.frm f ws.length ks (ws ++ zs) h)) := by
  refine ⟨fun pins s σ H Q I ⟨ι, hh, ℓ, r, lr, q⟩ => ?_⟩
  obtain ⟨c1, q⟩ := Post.chk q
  obtain ⟨fa, hadr, h2, h3⟩ := F.knm f c1
  have hm' : X.mg f = some (.ref fa) := by rw [g.mg]; exact h2
  have hk' : PySem.W.keepIn X.K (.ref fa) = true := by rw [g.K]; exact h3
  refine wpAny_Call_Name_kw (ld_glob I (g.gl hgl) hm' ?_ (deb_of hd))
  refine callw hk' hst hn ha (fun e σ H Q ⟨ι, h, ℓ, r, lr, q⟩ => ?_) hb I ⟨ι, hh, ℓ, r, lr, q.bind.imp fun xs h1 ι1 H1 s1 r1 p1 vs hv => ⟨ι1, h1, ℓ, r1, lr.mono s1, p1.bind.imp fun ys h2 ι2 H2 s2 r2 p2 zs hz => ?_⟩⟩
  · rw [h0 e] at q
    exact q.ok r _ .nil
  · intro us ws s3 I3 rv rz
    obtain ⟨ar, e1, e2, p3⟩ := p2.callA
    have T := F.frm f _ _ _ e1
    exact run_gk (us := us) g tk (Nat.le_refl _) T hadr I3 rv rz e2 hv.length.symm r2 ((hv.mono s2).append hz) p3
theorem metW_ok {w : W} {v : V} {m g' : Str} {h : List O} {ι : List Addr} {H : Hp} (r : Rel G h ι H) (hv : VR G H ι w v) (e : metW C w m h = some g') : ∃ n a cn Ca dx fs vs, w = .ref n ∧ v = .ref a ∧ C.met cn m = some g' ∧ G.cls cn = some Ca ∧ H a = some (.ins Ca dx vs) ∧ FR G H ι fs vs ∧ fs.lookup m = none := by
  unfold metW at e
  split at e
  · rename_i cn fs ei
    split at e
    · rename_i el
      unfold insW at ei
      split at ei
      · rename_i n
        split at ei
        · rename_i c2 f2 en
          cases ei
          cases hv with
          | ref ha =>
            obtain ⟨Ca, dx, vs, h0, h1, h2⟩ := r.obj _ _ _ en ha
            exact ⟨_, _, _, Ca, dx, _, vs, rfl, rfl, e, h0, h1, h2, by simpa using el⟩
        · cases ei
      · cases ei
    · cases e
  · cases e
theorem FR.lookN {κ : Type} [BEq κ] {ι : List Addr} {H : Hp} {f : κ} : ∀ {ws : List (κ × W)} {vs : List (κ × V)}, FR G H ι ws vs → ws.lookup f = none → vs.lookup f = none
  | _, _, .nil, _ => rfl
  | (y, w') :: ws, (_, v') :: vs, .cons r t, e => by
    rw [List.lookup_cons] at e ⊢
    cases hb : f == y with
    | true => rw [hb] at e; cases e
    | false => rw [hb] at e; exact FR.lookN t e
theorem FR.look {κ : Type} [BEq κ] {ι : List Addr} {H : Hp} {f : κ} : ∀ {ws : List (κ × W)} {vs : List (κ × V)} {w : W}, FR G H ι ws vs → ws.lookup f = some w → ∃ v, vs.lookup f = some v ∧ VR G H ι w v
  | _, _, _, .nil, e => nomatch e
  | (y, w') :: ws, (_, v') :: vs, w, .cons r t, e => by
    rw [List.lookup_cons] at e ⊢
    cases hb : f == y with
    | true =>
      rw [hb] at e
      cases e
      exact ⟨v', rfl, r⟩
    | false =>
      rw [hb] at e
      exact FR.look t e
section
variable {prog : Program} {w : World} {A : Around} {E : Value → Shared → Prop}
/-- o.m(e, .., k = ..) where o.m is read by getMethod -/
theorem call_attk {s : Shared} {o : Expr} {m : Str} {ap cp : Pos} {as : List Expr} {kws : List Keyword} {env : Env} {Q : Value → Shared → Prop} (hb : attributeBase o m env (eval o env) = eval o env)
    (hfew : ((backTo cp (starEach as env)).all (fun x => !x.1) && (backToKw cp (keywordEach kws env)).all (fun x => x.1.isSome) && decide (as.length + kws.length + (if (backToKw cp (keywordEach kws env)).isEmpty then 0 else 1) < 30)) = true)
    (hl : (ap.endLine == cp.line) = true)
    (h : wpAny (model prog w) A (eval o env) (fun ov s1 => ∀ pl, wpAny (model prog w) A (getMethod ov m pl) (fun fx s2 => wpAny (model prog w) A (callWith cp fx.1 fx.2 (backTo cp (starEach as env)) (backToKw cp (keywordEach kws env))) Q E s2) E s1) E s) :
    wpAny (model prog w) A (eval (.Call (.Attribute o m ap) as kws cp) env) Q E s := by
  rw [arm_eval_Call, hb]
  refine wpAny_bind (wpAny_mono h (fun ov s1 hh => ?_) fun _ _ e => e)
  refine wpAny_bind (wpAny_standAt ?_)
  have e1 : methodCallForm (as.length + kws.length) (backTo cp (starEach as env)) (backToKw cp (keywordEach kws env)) = true := hfew
  have e2 : methodCallPos true o env ap cp = pure cp := by unfold methodCallPos; simp [hl]
  unfold methodCall
  rw [e1]
  refine wpAny_bind (wpAny_holding (wpAny_mono (hh _) (fun fx s2 hc => ?_) fun _ _ z => z))
  exact wpAny_bind (wpAny_of_eq e2 hc)
end
/-- o.m(.., k = ..) -/
theorem e_meth {m : Str} {kws : List Keyword} {ks : List Str} {mo : Lo → List O → R W} {ms mk : Lo → List O → R (List W)} (F : Fc G C lvl c.fs) (g : Gx G lvl c X) (tk : Takes X Wx) (hsu : notSup a = true) (hl : (apos.endLine == pos.line) = true) (hfew : decide (es.length + kws.length < 28) = true) (ho : PE X a (tV G Wx mo)) (hst : es.all notStar = true)
    (hn : kws.map (·.arg) = ks.map some) (ha : PA X es (tA G Wx ms)) (h0 : es = [] → ∀ ℓ h, ms ℓ h = .ok [] h) (hb : PK X kws (tA G Wx mk)) :
    PE X (.Call (.Attribute a m apos) es kws pos) (tV G Wx fun ℓ h => (mo ℓ h).bind fun x h => (ofO (metW C x m h) h).bind fun f h => (ms ℓ h).bind fun ws h => (mk ℓ h).bind fun zs h => callA C.call C.frm f (ws.length + 1) ks (x :: (ws ++ zs)) h) := by
  obtain ⟨k1, k2, k3⟩ := kw_ok (env := X.env) (pos := pos) hn
  refine ⟨fun pins s σ H Q I ⟨ι, hh, ℓ, r, lr, q⟩ => ?_⟩
  have few : ((backTo pos (starEach es X.env)).all (fun x => !x.1) && (backToKw pos (keywordEach kws X.env)).all (fun x => x.1.isSome) && decide (es.length + kws.length + (if (backToKw pos (keywordEach kws X.env)).isEmpty then 0 else 1) < 30)) = true := by
    have hf := of_decide_eq_true hfew
    have : es.length + kws.length + (if (backToKw pos (keywordEach kws X.env)).isEmpty then 0 else 1) < 30 := by split <;> omega
    rw [stars_all hst, k1, decide_eq_true this]
    rfl
  refine call_attk (sup_ok hsu) few hl (thn (ho.run pins s σ H (fun v H1 => ∃ ι1 h1 w, Rel G h1 ι1 H1 ∧ LR G H1 ι1 ℓ σ ∧ VR G H1 ι1 w v ∧ Post G Wx σ ι1 H1 ((ofO (metW C w m h1) h1).bind fun f h => (ms ℓ h).bind fun ws h => (mk ℓ h).bind fun zs h => callA C.call C.frm f (ws.length + 1) ks (w :: (ws ++ zs)) h) (Wants Q G)) I
    ⟨ι, hh, ℓ, r, lr, q.bind.imp fun x h1 ι1 H1 s1 r1 p1 v hv => ⟨ι1, h1, x, r1, lr.mono s1, hv, p1⟩⟩) fun u s1 ⟨v, H1, I1, ru, ι1, h1, w, r1, lr1, hv, q1⟩ pl => ?_)
  cases em : metW C w m h1 with
  | none => rw [em] at q1; exact False.elim q1
  | some f =>
    rw [em] at q1
    have q1 : Post G Wx σ ι1 H1 ((ms ℓ h1).bind fun ws h => (mk ℓ h).bind fun zs h => callA C.call C.frm f (ws.length + 1) ks (w :: (ws ++ zs)) h) (Wants Q G) := q1
    obtain ⟨n, a', cn, Ca, dx, fs, vs, rfl, rfl, m1, m2, m3, m4, m5⟩ := metW_ok r1 hv em
    obtain rfl : u = Value.ref a' := ru
    obtain ⟨fa, f1, f2, f3⟩ := F.met cn m f m1 Ca m2
    have f2' : Cls X.K Ca := by rw [g.K]; exact f2
    have f3' : Meth X.K Ca m fa := by rw [g.K]; exact f3
    refine getmeth_ok I1 m3 f2' f3' (m4.lookN m5) ?_
    refine callw (first := [.ref a']) f3'.kp hst hn ha (fun e σ H Q ⟨ι, h, ℓ, r, lr, q⟩ => ?_) hb I1 ⟨ι1, h1, ℓ, r1, lr1, q1.bind.imp fun xs h2 ι2 H2 s2 r2 p2 vs2 hv2 => ⟨ι2, h2, ℓ, r2, lr1.mono s2, p2.bind.imp fun ys h3 ι3 H3 s3 r3 p3 zs hz => ?_⟩⟩
    · rw [h0 e] at q
      exact q.ok r _ .nil
    · intro us ws s3' I3 rv rz
      obtain ⟨ar, e1, e2, p4⟩ := p3.callA
      have T := F.frm f _ _ _ e1
      have hv3 : VRs G H3 ι3 (.ref n :: (xs ++ ys)) ((.ref a' :: vs2) ++ zs) := .cons ((hv.mono s2).mono s3) ((hv2.mono s3).append hz)
      have rv3 : Vals (V.ref a' :: vs2) (Value.ref a' :: us) := .cons rfl rv
      exact run_gk (us := .ref a' :: us) g tk (Nat.le_refl _) T f1 I3 rv3 rz e2 (by rw [List.length_cons, hv2.length]) r3 hv3 p4
theorem insW_ok {w : W} {v : V} {cn : Str} {fs : List (Str × W)} {h : List O} {ι : List Addr} {H : Hp} (r : Rel G h ι H) (hv : VR G H ι w v) (e : insW h w = some (cn, fs)) : ∃ n a Ca dx vs, w = .ref n ∧ v = .ref a ∧ h[n]? = some (.ins cn fs) ∧ ι[n]? = some a ∧ G.cls cn = some Ca ∧ H a = some (.ins Ca dx vs) ∧ FR G H ι fs vs := by
  unfold insW at e
  split at e
  · rename_i n
    split at e
    · rename_i c2 f2 en
      cases e
      cases hv with
      | ref ha =>
        obtain ⟨Ca, dx, vs, h0, h1, h2⟩ := r.obj _ _ _ en ha
        exact ⟨_, _, Ca, dx, vs, rfl, rfl, en, ha, h0, h1, h2⟩
    · cases e
  · cases e
theorem cr_noE {outer : List Env} {P : Program} {w : World} {H : Hp} {s : Shared} {er : Value} {s' : Shared} (h : L2.CX P w outer H s (fun _ _ _ => False) er s') : False := by
  obtain ⟨_, _, _, _, _, _, _, _, _, _, _, _, z⟩ := h
  exact z.elim
/-- a getter's promise -/
theorem getprop_g (g : Gx G lvl c X) {l : Nat} (hl : l + 1 ≤ lvl) {f f' : Str} {q0 fa C' a' dx : Addr} {vs : List (Str × V)} {ar : List Ar} {m : List W → List O → R W} (T : Tgt G l m f' 1 [] ar) (hfa : G.adr f' = some fa) {pins : List (Addr × Obj)} {σ : L2.St} {H : Hp} {s : Shared} {Q : VK} {bb : Bool} {E' : Value → Shared → Prop} {ι : List Addr} {h : List O} {x : W}
    (I : Inv X pins σ H s) (ea : H a' = some (.ins C' dx vs)) (cl : Cls X.K C') (hp : PropOf X.K C' f q0 fa) (rel : Rel G h ι H) (hv : VR G H ι x (.ref a')) (q : Post G WF σ ι H (m (arr [x] ar) h) (Wants Q G)) :
    wpAny (model X.prog X.w) X.A (getAttr (.ref a') f bb) (EP X pins σ Q) E' s := by
  obtain ⟨fa', fd, ps, e1, _, ⟨gg, gV, kb, hg⟩, F, hlen⟩ := T.ex
  rw [hfa] at e1
  cases e1
  obtain ⟨mA, O, _, _, _, _⟩ := ins_get I.hok ea
  obtain ⟨od, J, _⟩ := O.look
  obtain ⟨rest, hrec⟩ := hp.rec_
  have I1 := I.tok (s.toks + 1)
  have hc : (PySem.W.clsIn X.K C').isSome = true := by
    obtain ⟨cd, hc, _⟩ := PySem.W.any_some cl.hd
    rw [hc]
    rfl
  have kin : G.K.In s.heap := by have z := I.kIn; rw [g.K] at z; exact z
  have hv2 := hg H ι [x] [.ref a'] [] rfl rfl (.cons hv .nil)
  have e0 : Env0 G.P G.w G.K G.mg G.base X.A.in1 X.stack { s with toks := s.toks + 1 } H := by
    have z := I1.env0.in1
    rw [g.prog, g.w, g.K, g.mg, g.base] at z
    exact z
  have sp : spI G m ps.length (gV [.ref a'] []) H Q (fun _ _ _ => False) := by
    refine ⟨?_, ι, h, arr [x] ar, rel, hv2, q.reσ⟩
    by_cases z : (arr [x] ar).length = ps.length
    · rw [← hv2.length]; exact z
    · rw [hlen _ h z] at q
      exact False.elim q
  have run := F.run X.A.in1 X.stack { s with toks := s.toks + 1 } H ⟨[.ref a'], []⟩ (gg [.ref a'] []) (gV [.ref a'] []) Q (fun _ _ _ => False) (g.room.mono hl).in1 g.gd e0 (kb.to _ [.ref a'] [] kin rfl rfl) (kb.rel (.cons rfl .nil) .nil) sp
  rw [← g.prog, ← g.w] at run
  refine PySem.W.get_bind I.kIn J (PySem.W.plainGet_of (cl.get f)).1 (PySem.W.findObj_data hc hp.at_ hp.get hp.tak) (PySem.W.plainGet_of (cl.get f)).2 (wpAny_call (PySem.W.prop_get (s := { s with toks := s.toks + 1 }) I.kIn hrec ?_))
  refine codeAny_mono run fun r s' hq => ?_
  cases r with
  | error er => exact (cr_noE hq).elim
  | ok fl =>
    cases fl with
    | ret u =>
      obtain ⟨v, H', I3, rv, q3⟩ := I1.after hq
      show wpAny _ _ (handedOut u) _ _ _
      rw [PySem.W.handedOut_of (handed_of rv)]
      exact wpAny_pure ⟨v, H', I3, rv, q3⟩
    | next => exact False.elim hq
    | brk => exact False.elim hq
    | cont => exact False.elim hq
/-- x.f -/
theorem e_attr {f : Str} {mo : Lo → List O → R W} (F : Fc G C lvl c.fs) (g : Gx G lvl c X) (hsu : notSup a = true) (ho : PE X a (tV G Wx mo)) : PE X (.Attribute a f pos) (tV G Wx fun ℓ h => (mo ℓ h).bind fun x h => attW C x f h) := by
  refine ⟨fun pins s σ H Q I ⟨ι, hh, ℓ, r, lr, q⟩ => ?_⟩
  refine attr_of (sup_ok hsu) (thn (ho.run pins s σ H (fun v H1 => ∃ ι1 h1 w, Rel G h1 ι1 H1 ∧ VR G H1 ι1 w v ∧ Post G Wx σ ι1 H1 (attW C w f h1) (Wants Q G)) I ⟨ι, hh, ℓ, r, lr, q.bind.imp fun x h1 ι1 H1 s1 r1 p1 v hv => ⟨ι1, h1, x, r1, hv, p1⟩⟩) fun u s1 ⟨v, H1, I1, ru, ι1, h1, w, r1, hv, q1⟩ => ?_)
  unfold attW at q1
  split at q1
  · rename_i cn fs ei
    obtain ⟨n, a', Ca, dx, vs, rfl, rfl, m1, m2, m3, m4, m5⟩ := insW_ok r1 hv ei
    obtain rfl : u = Value.ref a' := ru
    split at q1
    · rename_i ha
      obtain ⟨k1, k2⟩ := F.att cn f ha Ca m3
      split at q1
      · rename_i w' el
        obtain ⟨v', l1, l2⟩ := m5.look el
        refine getattr_ok I1 m4 (by rw [g.K]; exact k1) (by rw [g.K]; exact k2) l1 fun u s2 I2 ru => ⟨v', H1, I2, ru, ?_⟩
        exact q1.ok r1 _ l2
      · exact False.elim q1
    · split at q1
      · rename_i gf ep
        obtain ⟨fa, q0, f1, f2, f3⟩ := F.prp cn f gf ep Ca m3
        obtain ⟨ar, e1, e2, p4⟩ := (Post.noX (σ' := σ) q1).callA
        obtain ⟨l, hl, T⟩ := F.ini gf 1 [] ar e1
        exact getprop_g g hl T f1 I1 m4 (by rw [g.K]; exact f2) (by rw [g.K]; exact f3) r1 hv p4
      · exact False.elim q1
  · exact False.elim q1
/-- c(..) -/
theorem e_new {x : Str} {kws : List Keyword} {ks : List Str} {ms mk : Lo → List O → R (List W)} (F : Fc G C lvl c.fs) (g : Gx G lvl c X) (tk : Takes X Wx) (hgl : glB c x = true) (hd : debB x = true) (hst : es.all notStar = true) (hn : kws.map (·.arg) = ks.map some) (ha : PA X es (tA G Wx ms))
    (h0 : es = [] → ∀ ℓ h, ms ℓ h = .ok [] h) (hb : PK X kws (tA G Wx mk)) :
    PE X (.Call (.Name x p) es kws pos) (tV G Wx fun ℓ h => (ofO (C.inn x) h).bind fun f h => (ms ℓ h).bind fun ws h => (mk ℓ h).bind fun zs h => newW C x f (ws.length + 1) ks (ws ++ zs) h) := by
  refine ⟨fun pins s σ H Q I ⟨ι, hh, ℓ, r, lr, q⟩ => ?_⟩
  cases ei : C.inn x with
  | none => rw [ei] at q; exact False.elim q
  | some f =>
    rw [ei] at q
    have q : Post G Wx σ ι H ((ms ℓ hh).bind fun ws h => (mk ℓ h).bind fun zs h => newW C x f (ws.length + 1) ks (ws ++ zs) h) (Wants Q G) := q
    obtain ⟨Ca, fa, hcl, hmg, hadr, hMk⟩ := F.inn x f ei
    have hm' : X.mg x = some (.ref Ca) := by rw [g.mg]; exact hmg
    have M : Mk X.K Ca fa := by rw [g.K]; exact hMk
    refine wpAny_Call_Name_kw (ld_glob I (g.gl hgl) hm' ?_ (deb_of hd))
    refine callw M.kp hst hn ha (fun e σ H Q ⟨ι, h, ℓ, r, lr, q⟩ => ?_) hb I ⟨ι, hh, ℓ, r, lr, q.bind.imp fun xs h1 ι1 H1 s1 r1 p1 vs hv => ⟨ι1, h1, ℓ, r1, lr.mono s1, p1.bind.imp fun ys h2 ι2 H2 s2 r2 p2 zs hz => ?_⟩⟩
    · rw [h0 e] at q
      exact q.ok r _ .nil
    · intro us ws s3 I3 rv rz
      have p2 := p2.bind0
      obtain ⟨ar, e1, e2, p4⟩ := p2.callA
      obtain ⟨l, hl, T⟩ := F.ini f _ _ _ e1
      obtain ⟨fa', fd, ps, e3, _, ⟨gg, gV, kb, hg⟩, Fn, hlen⟩ := T.ex
      rw [hadr] at e3
      cases e3
      have hx : H2 (s3.heap.objs.size + 1) = none := I3.hok.fresh (Nat.le_succ _)
      have hdx : H2 s3.heap.objs.size = none := I3.hok.fresh (Nat.le_refl _)
      have hne : s3.heap.objs.size ≠ s3.heap.objs.size + 1 := Nat.ne_of_lt (Nat.lt_succ_self _)
      generalize hX : s3.heap.objs.size + 1 = x1 at hx hne
      generalize hD : s3.heap.objs.size = d1 at hdx hne
      have I4 := Inv.made (C := Ca) I3
      rw [hX, hD] at I4
      have sa : Step ι2 H2 ι2 (upd H2 d1 (.own x1)) := Step.new hdx
      have ra : Rel G h2 ι2 (upd H2 d1 (.own x1)) := r2.new hdx
      have hx2 : upd H2 d1 (.own x1) x1 = none := by rw [upd_ne (Ne.symm hne)]; exact hx
      have sb := sa.trans (Step.new (ι := ι2) (o := .ins Ca d1 []) hx2)
      have rb : Rel G h2 ι2 (upd (upd H2 d1 (.own x1)) x1 (.ins Ca d1 [])) := ra.new hx2
      have nx : x1 ∉ ι2 := r2.fresh hx
      have rc : Rel G (h2 ++ [O.ins x []]) (ι2 ++ [x1]) (upd (upd H2 d1 (.own x1)) x1 (.ins Ca d1 [])) := rb.alloc nx ⟨Ca, d1, [], hcl, upd_same, .nil⟩ .refl
      have sc : Step ι2 H2 (ι2 ++ [x1]) (upd (upd H2 d1 (.own x1)) x1 (.ins Ca d1 [])) := ⟨⟨[x1], rfl, fun a ha => by rw [List.mem_singleton.mp ha]; exact hx⟩, sb.keep, sb.there, sb.fix⟩
      have hself : VR G (upd (upd H2 d1 (.own x1)) x1 (.ins Ca d1 [])) (ι2 ++ [x1]) (.ref h2.length) (.ref x1) := .ref (by rw [List.getElem?_append_right (by rw [r2.len]; exact Nat.le_refl _), r2.len, Nat.sub_self]; rfl)
      have hxs : VRs G (upd (upd H2 d1 (.own x1)) x1 (.ins Ca d1 [])) (ι2 ++ [x1]) (xs ++ ys) (vs ++ zs) := (((hv.mono s2).append hz).mono sc)
      have hall : VRs G (upd (upd H2 d1 (.own x1)) x1 (.ins Ca d1 [])) (ι2 ++ [x1]) (.ref h2.length :: (xs ++ ys)) ((.ref x1 :: vs) ++ zs) := .cons hself hxs
      have l2 : (V.ref x1 :: vs).length = xs.length + 1 := by rw [List.length_cons, hv.length]
      have l3 : zs.length = ks.length := by
        have z := hall.length
        rw [List.length_append, l2] at z
        rw [e2] at z
        omega
      have hv3 := hg _ _ _ _ _ l2 l3 hall
      have kin : G.K.In s3.heap := by have z := I3.kIn; rw [g.K] at z; exact z
      have kin4 := by have z := I4.kIn; rw [g.K] at z; exact z
      have p5 : Post G Wx σ (ι2 ++ [x1]) (upd (upd H2 d1 (.own x1)) x1 (.ins Ca d1 [])) (C.ini f (arr (.ref h2.length :: (xs ++ ys)) ar) (h2 ++ [O.ins x []])) (Wants (fun v H3 => v = .non ∧ Q (.ref x1) H3) G) := by
        refine (p4.later sc).imp fun w0 h3 ι3 H3 s5 r5 p5 v hv0 => ?_
        cases w0 <;> first
          | exact False.elim p5
          | skip
        cases hv0
        have z := (show Post G Wx σ ι2 H2 (.ok (.ref h2.length) h3) (Wants Q G) from p5) ι3 H3 (sc.trans s5) r5 _ (.ref (s5.get (show (ι2 ++ [x1])[h2.length]? = some x1 from by rw [List.getElem?_append_right (by rw [r2.len]; exact Nat.le_refl _), r2.len, Nat.sub_self]; rfl)))
        exact ⟨rfl, z⟩
      have sp : spI G (C.ini f) ps.length (gV (.ref x1 :: vs) zs) (upd (upd H2 d1 (.own x1)) x1 (.ins Ca d1 [])) (fun v H3 => v = .non ∧ Q (.ref x1) H3) (WE Wx σ) := by
        refine ⟨?_, _, _, _, rc, hv3, p5.reσ⟩
        by_cases z : (arr (.ref h2.length :: (xs ++ ys)) ar).length = ps.length
        · rw [← hv3.length]; exact z
        · rw [hlen _ _ z] at p5
          exact False.elim p5
      have rv3 : Vals (V.ref x1 :: vs) (Value.ref x1 :: us) := .cons rfl rv
      have e0 := by have z := I4.env0.make Ca us (ks.zip ws); rw [g.prog, g.w, g.K, g.mg, g.base] at z; exact z
      have run := Fn.run (X.A.under (.builtin "type.__call__" ⟨.ref Ca :: us, ks.zip ws⟩)) X.stack _ _ ⟨.ref x1 :: us, ks.zip ws⟩ (gg (.ref x1 :: us) ws) (gV (.ref x1 :: vs) zs) _ (WE Wx σ) ((g.room.mono hl).make Ca us (ks.zip ws)) (by first | exact g.gd | (have z := g.gd; simpa [Around.under, Code.isGuard, guardIds] using z)) e0
        (kb.to _ (.ref x1 :: us) ws kin4 (rv3.length.symm.trans l2) (rz.length.symm.trans l3)) (kb.rel rv3 rz) sp
      rw [← g.prog, ← g.w] at run
      subst hX
      subst hD
      refine wpAny_call (make_map (f := fa) I3.kIn M.makes M.init (beq_iff_eq.mp M.fn) (codeAny_mono run fun res s' hq => ?_))
      cases res with
      | error er => exact passAt tk σ pins _ _ er s' I4 hq
      | ok fl =>
        cases fl with
        | ret u =>
          obtain ⟨v, H', I5, rv', ev, q3⟩ := I4.after hq
          subst ev
          exact ⟨rv', ⟨V.ref (s3.heap.objs.size + 1), H', I5, rfl, q3⟩⟩
        | next => exact False.elim hq
        | brk => exact False.elim hq
        | cont => exact False.elim hq
/-- a known def runs, no exception comes out -/
theorem run_no (g : Gx G lvl c X) {l : Nat} {A : Around} (hA : Room l A) (gA : A.guards = some []) {f : Str} {fa : Addr} {n : Nat} {ar : List Ar} {m : List W → List O → R W} (T : Tgt G l m f n [] ar) (hfa : G.adr f = some fa) {pins : List (Addr × Obj)} {σ : L2.St} {H : Hp} {s : Shared} {Q : VK} {us : List Value} {vs : List V} {ι : List Addr} {h : List O} {xs : List W} {E' : Value → Shared → Prop}
    (I : Inv X pins σ H s) (e0 : Env0 G.P G.w G.K G.mg G.base A X.stack s H) (r : Vals vs us) (l2 : xs.length = n) (rel : Rel G h ι H) (hv : VRs G H ι xs vs) (q : Post G WF σ ι H (m (arr xs ar) h) (Wants Q G)) :
    wpAny (model X.prog X.w) A (call (.ref fa) us) (EP X pins σ Q) E' s := by
  obtain ⟨fa', fd, ps, e1, _, ⟨gg, gV, kb, hg⟩, F, hlen⟩ := T.ex
  rw [hfa] at e1
  cases e1
  have lv : vs.length = n := hv.length.symm.trans l2
  have kin : G.K.In s.heap := by have z := I.kIn; rw [g.K] at z; exact z
  have hv2 := hg H ι xs vs [] lv rfl (by rw [List.append_nil]; exact hv)
  have sp : spI G m ps.length (gV vs []) H Q (fun _ _ _ => False) := by
    refine ⟨?_, ι, h, arr xs ar, rel, hv2, q.reσ⟩
    by_cases z : (arr xs ar).length = ps.length
    · rw [← hv2.length]; exact z
    · rw [hlen _ h z] at q
      exact False.elim q
  have run := F.run A X.stack s H ⟨us, []⟩ (gg us []) (gV vs []) Q (fun _ _ _ => False) hA gA e0 (kb.to s us [] kin (r.length.symm.trans lv) rfl) (kb.rel r .nil) sp
  rw [← g.prog, ← g.w] at run
  refine wpAny_call (codeAny_mono run fun res s' hq => ?_)
  cases res with
  | error er => exact (cr_noE hq).elim
  | ok fl =>
    cases fl with
    | ret u => exact I.after hq
    | next => exact False.elim hq
    | brk => exact False.elim hq
    | cont => exact False.elim hq
theorem spc_ok (F : Fc G C lvl c.fs) {x : W} {v : V} {m : Str} {ws : List W} {h : List O} {ι : List Addr} {H : Hp} {σ : L2.St} {k : W → List O → List Addr → Hp → Prop} (r : Rel G h ι H) (hv : VR G H ι x v) (p : Post G Wx σ ι H (spcW C x m ws h) k) :
    ∃ a Ca dx vs f fa l ar, v = .ref a ∧ H a = some (.ins Ca dx vs) ∧ Cls G.K Ca ∧ Meth G.K Ca m fa ∧ l + 1 ≤ lvl ∧ Tgt G l (C.ini f) f (ws.length + 1) [] ar ∧ G.adr f = some fa ∧ Post G WF σ ι H (C.ini f (arr (x :: ws) ar) h) k := by
  unfold spcW at p
  split at p
  · rename_i f em
    obtain ⟨n, a', cn, Ca, dx, fs, vs, rfl, rfl, m1, m2, m3, m4, m5⟩ := metW_ok r hv em
    obtain ⟨fa, f1, f2, f3⟩ := F.met cn m f m1 Ca m2
    obtain ⟨ar, e1, e2, p4⟩ := (Post.noX (σ' := σ) p).callA
    obtain ⟨l, hl, T⟩ := F.ini f _ [] ar e1
    exact ⟨a', Ca, dx, vs, f, fa, l, ar, rfl, m3, f2, f3, hl, T, f1, p4⟩
  · exact False.elim p
def rOlen (G : Pg) (lvl : Nat) (C : Cn) : List V → Hp → VK → Prop := fun xs H Q => ∃ ι h x v, xs = [v] ∧ Rel G h ι H ∧ VR G H ι x v ∧ ∃ a Ca dx vs f fa l ar, v = .ref a ∧ H a = some (.ins Ca dx vs) ∧ Meth G.K Ca "__len__" fa ∧ l + 1 ≤ lvl ∧ Tgt G l (C.ini f) f 1 [] ar ∧ G.adr f = some fa ∧
  Post G WF [] ι H (C.ini f (arr [x] ar) h) (Wants (fun w H' => ∃ n : Int, w = .int n ∧ 0 ≤ n ∧ n < 2 ^ 62 ∧ Q (.int n) H') G)
theorem call_olen (g : Gx G lvl c X) : CallR X (.builtin "len") (rOlen G lvl C) := by
  rintro pins s σ H xs us Q I rv ⟨ι, h, x, v, rfl, rel, hv, a, Ca, dx, vs, f, fa, l, ar, rfl, ea, hm, hl, T, hadr, q⟩
  cases rv with
  | @cons _ u0 _ ur ra rw' =>
    cases rw'
    obtain rfl : u0 = Value.ref a := ra
    obtain ⟨mA, O, _, _, _, _⟩ := ins_get I.hok ea
    obtain ⟨od, J, _⟩ := O.look
    obtain ⟨mm, hF⟩ := I.fr
    have e0 : Env0 G.P G.w G.K G.mg G.base X.A.in1 X.stack s H := by
      have z := I.env0.in1
      rw [g.prog, g.w, g.K, g.mg, g.base] at z
      exact z
    refine PySem.W.len_K hF I.ok.mod.kin J (f := fa) (by rw [g.K]; exact hm.at_) (by rw [g.K]; exact hm.fn) (wpAny_mono (run_no (σ := σ) (us := [.ref a]) (vs := [.ref a]) g ((g.room.mono hl).in1) g.gd T hadr I e0 (.cons rfl .nil) rfl rel (.cons hv .nil) (Post.reσ0 q)) (fun u s' z => ?_) fun _ _ z => z)
    obtain ⟨w, H', I', rw2, n, rfl, n1, n2, qq⟩ := z
    obtain ⟨t, rfl⟩ := rw2
    exact ⟨⟨n1, by have : (2 : Int) ^ 62 < 2 ^ 63 := by decide
                   omega⟩, ⟨.int n, H', I'.tok _, ⟨_, rfl⟩, qq⟩⟩
theorem e_olen {mo : Lo → List O → R W} (F : Fc G C lvl c.fs) (g : Gx G lvl c X) (hgl : glB c "len" = true) (hst : notStar a = true) (ho : PE X a (tV G Wx mo)) :
    PE X (.Call (.Name "len" p) [a] [] pos) (tV G Wx fun ℓ h => (mo ℓ h).bind fun x h => (spcW C x "__len__" [] h).bind fun w h => lenI w h) := by
  refine PE.imp (pe_callB (call_olen (C := C) g) (g.gl hgl) (nm_blt F g (by decide)) (by decide +kernel) (a_one ho hst) (he := star_ok hst) (hpl := rfl)) fun σ H Q ⟨ι, hh, ℓ, r, lr, q⟩ => ?_
  refine ⟨ι, hh, ℓ, r, lr, q.bind.imp fun x h1 ι1 H1 s1 r1 p1 v hv => ?_⟩
  obtain ⟨a', Ca, dx, vs, f, fa, l, ar, k1, k2, k3, k4, k5, k6, k7, k8⟩ := spc_ok F r1 hv p1.bind
  refine ⟨ι1, h1, x, v, rfl, r1, hv, a', Ca, dx, vs, f, fa, l, ar, k1, k2, k4, k5, k6, k7, (Post.reσ0 k8).imp fun w h2 ι2 H2 s2 r2 p2 u hu => ?_⟩
  unfold lenI at p2
  split at p2
  · rename_i n
    obtain ⟨c1, p2⟩ := p2.chk
    have c1 := of_decide_eq_true c1
    cases hu
    exact ⟨n, rfl, c1.1, c1.2, Wants.int p2 r2⟩
  · exact False.elim p2
/-- x in y, where y's class says it -/
def rOin (G : Pg) (lvl : Nat) (C : Cn) (neg : Bool) : R2 := fun u v H Q => ∃ ι h x y, Rel G h ι H ∧ VR G H ι x u ∧ VR G H ι y v ∧ ∃ a Ca dx vs f fa l ar, v = .ref a ∧ H a = some (.ins Ca dx vs) ∧ Meth G.K Ca "__contains__" fa ∧ l + 1 ≤ lvl ∧ Tgt G l (C.ini f) f 2 [] ar ∧ G.adr f = some fa ∧
  Post G WF [] ι H (C.ini f (arr [y, x] ar) h) (Wants (fun w H' => ∃ b : Bool, w = .bl b ∧ Q (.bl (b != neg)) H') G)
theorem op_oin (g : Gx G lvl c X) (neg : Bool) : OpR X (compareOp (if neg = true then .NotIn else .In)) (rOin G lvl C neg) := by
  rintro pins s σ H u v uv vv Q I ru rv ⟨ι, h, x, y, rel, hx, hy, a, Ca, dx, vs, f, fa, l, ar, rfl, ea, hm, hl, T, hadr, q⟩
  obtain rfl : vv = Value.ref a := rv
  obtain ⟨mA, O, _, _, _, _⟩ := ins_get I.hok ea
  obtain ⟨od, J, _⟩ := O.look
  obtain ⟨mm, hF⟩ := I.fr
  have e0 : Env0 G.P G.w G.K G.mg G.base X.A X.stack s H := by
    have z := I.env0
    rw [g.prog, g.w, g.K, g.mg, g.base] at z
    exact z
  have run := run_no (σ := σ) (us := [.ref a, uv]) (vs := [.ref a, u]) (E' := X.xe) g (g.room.mono (show l ≤ lvl by omega)) g.gd T hadr I e0 (.cons rfl (.cons ru .nil)) rfl rel (.cons hy (.cons hx .nil)) (Post.reσ0 q)
  cases neg with
  | false =>
    refine PySem.W.in_K hF I.ok.mod.kin J (f := fa) (by rw [g.K]; exact hm.at_) (by rw [g.K]; exact hm.fn) (wpAny_mono run (fun w s' z => ?_) fun _ _ z => z)
    obtain ⟨w', H', I', rw2, b, rfl, qq⟩ := z
    cases rw2
    refine wpAny_truthy_bool ⟨.bl b, H', I', rfl, ?_⟩
    rw [show (b != false) = b from by cases b <;> rfl] at qq
    exact qq
  | true =>
    refine PySem.W.notIn_K hF I.ok.mod.kin J (f := fa) (by rw [g.K]; exact hm.at_) (by rw [g.K]; exact hm.fn) (wpAny_mono run (fun w s' z => ?_) fun _ _ z => z)
    obtain ⟨w', H', I', rw2, b, rfl, qq⟩ := z
    cases rw2
    refine wpAny_truthy_bool ⟨.bl (!b), H', I', rfl, ?_⟩
    rw [show (b != true) = !b from by cases b <;> rfl] at qq
    exact qq
theorem oin_rd {neg : Bool} {σ : L2.St} {ι ι2 : List Addr} {H H2 : Hp} {h h2 : List O} {x y : W} {u v : V} {Q : VK} (F : Fc G C lvl c.fs) (hx : VR G H2 ι2 x u) (hy : VR G H2 ι2 y v) (r2 : Rel G h2 ι2 H2)
    (p : Post G Wx σ ι2 H2 ((spcW C y "__contains__" [x] h2).bind fun w h => notI neg w h) (Wants Q G)) : rOin G lvl C neg u v H2 Q := by
  obtain ⟨a', Ca, dx, vs, f, fa, l, ar, k1, k2, k3, k4, k5, k6, k7, k8⟩ := spc_ok F r2 hy p.bind
  refine ⟨ι2, h2, x, y, r2, hx, hy, a', Ca, dx, vs, f, fa, l, ar, k1, k2, k4, k5, k6, k7, (Post.reσ0 k8).imp fun w h3 ι3 H3 s3 r3 p3 w' hw => ?_⟩
  unfold notI at p3
  split at p3
  · rename_i b
    cases hw
    exact ⟨b, rfl, Wants.bl p3 r3⟩
  · exact False.elim p3
def oinSm (C : Cn) (neg : Bool) (ma mb : Lo → List O → R W) : Sm := let v := fun ℓ h => (ma ℓ h).bind fun x h => (mb ℓ h).bind fun y h => (spcW C y "__contains__" [x] h).bind fun w h => notI neg w h
    { smV v with t := fun ℓ h => unBl (v ℓ h) }
theorem e_oin {neg : Bool} {ma mb : Lo → List O → R W} (F : Fc G C lvl c.fs) (g : Gx G lvl c X) (ha : PE X a (tV G Wx ma)) (hb : PE X b (tV G Wx mb)) (hn : notSet b = true) : OkE G Wx X (oinSm C neg ma mb) (.Compare a [if neg = true then .NotIn else .In] [b] pos) := by
  have ho := op_oin (C := C) g neg
  refine ⟨?_, ?_, fun z => absurd z Bool.false_ne_true, fun _ _ _ => rfl⟩
  · refine PE.imp (pe_cmpR ho ha hb (set_ok hn)) fun σ H Q ⟨ι, hh, ℓ, r, lr, p⟩ => ?_
    refine ⟨ι, hh, ℓ, r, lr, (Post.bind p).imp fun x h1 ι1 H1 s1 r1 p1 u hu => ?_⟩
    refine ⟨ι1, h1, ℓ, r1, lr.mono s1, (Post.bind p1).imp fun y h2 ι2 H2 s2 r2 p2 v hv => ?_⟩
    exact oin_rd (ι := ι) (H := H) (h := hh) F (hu.mono s2) hv r2 p2
  · refine PT.imp (pt_cmpR ho ha hb (set_ok hn)) fun σ H Q ⟨ι, hh, ℓ, r, lr, p⟩ => ?_
    have p : Post G Wx σ ι H (unBl ((ma ℓ hh).bind fun x h => (mb ℓ h).bind fun y h => (spcW C y "__contains__" [x] h).bind fun w h => notI neg w h)) _ := p
    have p := Wants.of (unBl_ok p) (f := Q) fun w h' ι' H' z => z
    refine ⟨ι, hh, ℓ, r, lr, (Post.bind p).imp fun x h1 ι1 H1 s1 r1 p1 u hu => ?_⟩
    refine ⟨ι1, h1, ℓ, r1, lr.mono s1, (Post.bind p1).imp fun y h2 ι2 H2 s2 r2 p2 v hv => ?_⟩
    exact oin_rd (ι := ι) (H := H) (h := hh) F (hu.mono s2) hv r2 p2
end
end MP
set_option maxRecDepth 100000
set_option maxHeartbeats 4000000
namespace MP
open PySem PySem.Spec PyProof.Rows L2
section
variable {G : Pg} {lvl : Nat} {c : Ctx} {X : Cx} {Wx : WX} {C : Cn} {a b d e f : Expr} {es : List Expr} {pos p apos : Pos} {sa sb sc : Sm}
/-! ### dicts, read -/
theorem valW_ok {ι : List Addr} {H : Hp} {k : Key} : ∀ {kvs : List (Key × W)} {m : List (Key × V)}, FR G H ι kvs m → (valW kvs k = none ∧ valV m k = none) ∨ ∃ w v, valW kvs k = some w ∧ valV m k = some v ∧ VR G H ι w v
  | _, _, .nil => .inl ⟨rfl, rfl⟩
  | (k', w) :: kvs, (_, v) :: m, .cons r t => by
    by_cases h : k' = k
    · refine .inr ⟨w, v, ?_, valV_pos h, r⟩
      unfold valW
      rw [List.find?_cons, decide_eq_true (show (k', w).1 = k from h)]
      rfl
    · have e1 : valW ((k', w) :: kvs) k = valW kvs k := by
        unfold valW
        rw [List.find?_cons, decide_eq_false (show ¬ (k', w).1 = k from h)]
      rw [e1, valV_neg (p := (k', v)) h]
      exact valW_ok t
theorem keyW_ok {ι : List Addr} {H : Hp} {y : W} {v : V} {k : Key} (hy : VR G H ι y v) (e : keyW y = some k) : v = kV k := by
  cases hy <;> first
    | (cases e; rfl)
    | cases e
theorem dctW_ok {ι : List Addr} {H : Hp} {h : List O} {x : W} {u : V} {kvs : List (Key × W)} (r : Rel G h ι H) (hx : VR G H ι x u) (e : dctW h x = some kvs) : ∃ a m, u = .ref a ∧ Rd H a (.dK m) ∧ FR G H ι kvs m := by
  unfold dctW at e
  split at e
  · cases e
    cases hx with
    | sdct hm hv => exact ⟨_, _, rfl, .inr ⟨_, hm⟩, hv.fr⟩
  · rename_i n
    split at e
    · rename_i kvs' en
      cases e
      cases hx with
      | ref ha =>
        obtain ⟨m, h1, h2⟩ := r.obj _ _ _ en ha
        exact ⟨_, m, rfl, .inl h1, h2⟩
    · cases e
  · cases e
theorem dget_ok {ι : List Addr} {H : Hp} {h : List O} {x y : W} {u v : V} {o : Option W} (r : Rel G h ι H) (hx : VR G H ι x u) (hy : VR G H ι y v) (e : dgetW h x y = some o) : ∃ a q, u = .ref a ∧ DGet H a v q ∧ ((o = none ∧ q = none) ∨ ∃ w z, o = some w ∧ q = some z ∧ VR G H ι w z) := by
  unfold dgetW at e
  rw [Option.bind_eq_some_iff] at e
  obtain ⟨kvs, e1, e2⟩ := e
  rw [Option.map_eq_some_iff] at e2
  obtain ⟨k, e3, rfl⟩ := e2
  obtain ⟨a, m, rfl, rd, fr⟩ := dctW_ok r hx e1
  have hk := keyW_ok hy e3
  refine ⟨a, valV m k, rfl, .inl ⟨m, k, rd, hk, rfl⟩, ?_⟩
  rcases valW_ok (k := k) fr with ⟨h1, h2⟩ | ⟨w, z, h1, h2, h3⟩
  · exact .inl ⟨h1, h2⟩
  · exact .inr ⟨w, z, h1, h2, h3⟩
theorem m1_of {o e : Expr} {m : Str} {cpos : Pos} (h1 : notSup o = true) (h2 : (apos.endLine == cpos.line) = true) (h3 : notStar e = true) : M1 X o m apos e cpos := by
  refine ⟨sup_ok h1, ?_, h2, ?_⟩
  · rw [stars_all (es := [e]) (by rw [List.all_cons, h3]; rfl)]
    rfl
  · rw [star_ok h3]; rfl
theorem m2_of {o e f : Expr} {m : Str} {cpos : Pos} (h1 : notSup o = true) (h2 : (apos.endLine == cpos.line) = true) (h3 : notStar e = true) (h4 : notStar f = true) : M2 X o m apos e f cpos := by
  refine ⟨sup_ok h1, ?_, h2, ?_⟩
  · rw [stars_all (es := [e, f]) (by rw [List.all_cons, List.all_cons, h3, h4]; rfl)]
    rfl
  · rw [star_ok h3, star_ok h4]; rfl
/-- d.get(k) -/
theorem e_dg1 {md mk : Lo → List O → R W} (g : Gx G lvl c X) (hd : PE X a (tV G Wx md)) (hk : PE X b (tV G Wx mk)) (h1 : notSup a = true) (h2 : (apos.endLine == pos.line) = true) (h3 : notStar b = true) :
    PE X (.Call (.Attribute a "get" apos) [b] [] pos) (tV G Wx fun ℓ h => (md ℓ h).bind fun x h => chk (dctW h x).isSome ((mk ℓ h).bind fun y h => (ofO (dgetW h x y) h).bind fun o h => .ok (o.getD .non) h)) := by
  refine PE.imp (pe_dget1 (by have := g.room.un; omega) hd hk (m1_of h1 h2 h3)) fun σ H Q ⟨ι, hh, ℓ, r, lr, p⟩ => ?_
  refine ⟨ι, hh, ℓ, r, lr, p.bind.imp fun x h1 ι1 H1 s1 r1 p1 u hu => ?_⟩
  obtain ⟨c1, p1⟩ := p1.chk
  obtain ⟨kvs, ek⟩ := Option.isSome_iff_exists.mp c1
  obtain ⟨q, m, rfl, rd, fr⟩ := dctW_ok r1 hu ek
  refine ⟨q, rfl, .inl ⟨m, rd⟩, ι1, h1, ℓ, r1, lr.mono s1, p1.bind.imp fun y h2 ι2 H2 s2 r2 p2 v hv => ?_⟩
  have p3 := p2.bind
  cases eo : dgetW h2 x y with
  | none => rw [eo] at p3; exact False.elim p3
  | some o =>
    rw [eo] at p3
    have p4 := p3.ok r2
    obtain ⟨q', o', e1, dg, res⟩ := dget_ok r2 (hu.mono s2) hv eo
    cases e1
    refine ⟨o', dg, ?_⟩
    rcases res with ⟨rfl, rfl⟩ | ⟨w, z, rfl, rfl, hw⟩
    · exact (show Post G Wx σ ι2 H2 (.ok .non h2) (Wants Q G) from p4).ok r2 _ .non
    · exact (show Post G Wx σ ι2 H2 (.ok w h2) (Wants Q G) from p4).ok r2 _ hw
/-- d.get(k, x) -/
theorem e_dg2 {md mk mx : Lo → List O → R W} (g : Gx G lvl c X) (hd : PE X a (tV G Wx md)) (hk : PE X b (tV G Wx mk)) (hx : PE X d (tV G Wx mx)) (h1 : notSup a = true) (h2 : (apos.endLine == pos.line) = true) (h3 : notStar b = true) (h4 : notStar d = true) :
    PE X (.Call (.Attribute a "get" apos) [b, d] [] pos) (tV G Wx fun ℓ h => (md ℓ h).bind fun x h => chk (dctW h x).isSome ((mk ℓ h).bind fun y h => (mx ℓ h).bind fun z h => (ofO (dgetW h x y) h).bind fun o h => .ok (o.getD z) h)) := by
  refine PE.imp (pe_dget2 (by have := g.room.un; omega) hd hk hx (m2_of h1 h2 h3 h4)) fun σ H Q ⟨ι, hh, ℓ, r, lr, p⟩ => ?_
  refine ⟨ι, hh, ℓ, r, lr, p.bind.imp fun x h1 ι1 H1 s1 r1 p1 u hu => ?_⟩
  obtain ⟨c1, p1⟩ := p1.chk
  obtain ⟨kvs, ek⟩ := Option.isSome_iff_exists.mp c1
  obtain ⟨q, m, rfl, rd, fr⟩ := dctW_ok r1 hu ek
  refine ⟨q, rfl, .inl ⟨m, rd⟩, ι1, h1, ℓ, r1, lr.mono s1, p1.bind.imp fun y h2 ι2 H2 s2 r2 p2 v hv => ?_⟩
  refine ⟨ι2, h2, ℓ, r2, (lr.mono s1).mono s2, p2.bind.imp fun z h3 ι3 H3 s3 r3 p3 zv hz => ?_⟩
  have p4 := p3.bind
  cases eo : dgetW h3 x y with
  | none => rw [eo] at p4; exact False.elim p4
  | some o =>
    rw [eo] at p4
    have p5 := p4.ok r3
    obtain ⟨q', o', e1, dg, res⟩ := dget_ok r3 ((hu.mono s2).mono s3) (hv.mono s3) eo
    cases e1
    refine ⟨o', dg, ?_⟩
    rcases res with ⟨rfl, rfl⟩ | ⟨w, z', rfl, rfl, hw⟩
    · exact (show Post G Wx σ ι3 H3 (.ok z h3) (Wants Q G) from p5).ok r3 _ hz
    · exact (show Post G Wx σ ι3 H3 (.ok w h3) (Wants Q G) from p5).ok r3 _ hw
/-- d[k] -/
theorem e_dix {md mk : Lo → List O → R W} (g : Gx G lvl c X) (hd : PE X a (tV G Wx md)) (hk : PE X b (tV G Wx mk)) (hs : notSlice b = true) :
    PE X (.Subscript a b pos) (tV G Wx fun ℓ h => (md ℓ h).bind fun x h => (mk ℓ h).bind fun y h => (ofO (dgetW h x y) h).bind fun o h => ofO o h) := by
  refine PE.imp (pe_dget (by have := g.room.un; omega) hd hk (by intro v w; cases b <;> first | rfl | exact absurd hs Bool.false_ne_true)) fun σ H Q ⟨ι, hh, ℓ, r, lr, p⟩ => ?_
  refine ⟨ι, hh, ℓ, r, lr, p.bind.imp fun x h1 ι1 H1 s1 r1 p1 u hu => ?_⟩
  refine ⟨ι1, h1, ℓ, r1, lr.mono s1, p1.bind.imp fun y h2 ι2 H2 s2 r2 p2 v hv => ?_⟩
  have p3 := p2.bind
  cases eo : dgetW h2 x y with
  | none => rw [eo] at p3; exact False.elim p3
  | some o =>
    rw [eo] at p3
    have p4 := p3.ok r2
    obtain ⟨q', o', e1, dg, res⟩ := dget_ok r2 (hu.mono s2) hv eo
    subst e1
    rcases res with ⟨rfl, rfl⟩ | ⟨w, z, rfl, rfl, hw⟩
    · exact False.elim p4
    · exact ⟨q', z, rfl, dg, (show Post G Wx σ ι2 H2 (.ok w h2) (Wants Q G) from p4).ok r2 _ hw⟩
/-- int(x) -/
theorem e_int1 {mo : Lo → List O → R W} (F : Fc G C lvl c.fs) (g : Gx G lvl c X) (hgl : glB c "int" = true) (hst : notStar a = true) (ho : PE X a (tV G Wx mo)) :
    PE X (.Call (.Name "int" p) [a] [] pos) (tV G Wx fun ℓ h => (mo ℓ h).bind fun w h => intI w h) := by
  refine PE.imp (pe_callTy call_int1 (g.gl hgl) (nm_blt F g (by decide)) (by decide +kernel) (a_one ho hst) (he := star_ok hst) (hpl := rfl)) fun σ H Q ⟨ι, hh, ℓ, r, lr, q⟩ => ?_
  refine ⟨ι, hh, ℓ, r, lr, q.bind.imp fun w h1 ι1 H1 s1 r1 p1 v hv => ?_⟩
  unfold intI at p1
  split at p1
  · cases hv
    exact .inl ⟨_, rfl, Wants.int p1 r1⟩
  · cases hv
    exact .inr ⟨_, rfl, Wants.int p1 r1⟩
  · exact False.elim p1
theorem VRs.rev {H : Hp} {ι : List Addr} : ∀ {ws : List W} {vs : List V}, VRs G H ι ws vs → VRs G H ι ws.reverse vs.reverse
  | _, _, .nil => .nil
  | _, _, .cons r t => by rw [List.reverse_cons, List.reverse_cons]; exact (VRs.rev t).append (.cons r .nil)
/-- xs[::-1] -/
theorem e_rev {k : Nat} {p1 p2 p3 : Pos} (g : Gx G lvl c X) (ha : OkE G Wx X sa a) : PE X (.Subscript a (.Slice none none (some (.UnaryOp .USub (.Constant (.int 1) k p1) p2)) p3) pos) (tL G Wx fun ℓ h => (sa.opd ℓ h).bind fun x h => (lsqO h x).bind fun ws h => .ok ws.reverse h) := by
  refine PE.imp (pe_revL ha.o) fun σ H Q ⟨ι, hh, ℓ, r, lr, p⟩ => ?_
  refine ⟨ι, hh, ℓ, r, lr, p.bind.imp fun x h1 ι1 H1 s1 r1 p1 u hu => ?_⟩
  rw [g.K]
  obtain ⟨q, vs, ws, rfl, hs, hr, p4⟩ := lsqO_ok r1 hu p1.bind
  refine ⟨q, vs, rfl, hs, fun t ht => ?_⟩
  have s4 : Step ι1 H1 ι1 (upd H1 t (.lst vs.reverse)) := Step.new ht
  exact p4 ι1 _ s4 (r1.new ht) t _ (s1.back ht) (r1.fresh ht) upd_same (hr.rev.mono s4)
/-! ### isinstance, where instances stand -/
theorem ins_ty {ι : List Addr} {H : Hp} {h : List O} {w : W} {v : V} {cn : Str} {fs : List (Str × W)} (r : Rel G h ι H) (hv : VR G H ι w v) (e : insW h w = some (cn, fs)) : ∃ Ca, G.cls cn = some Ca ∧ (InsC G.K Ca → TyX G.K H v (.ref Ca)) := by
  obtain ⟨n, a', Ca, dx, vs, rfl, rfl, m1, m2, m3, m4, m5⟩ := insW_ok r hv e
  exact ⟨Ca, m3, fun T => .base (.ins m4 T.cl T.ha T.hn T.htk T.hm)⟩
theorem kitAny_ins {K : PySem.W.Frag} {Ca : Addr} (T : InsC K Ca) : ∀ {Ts : List String}, (∀ T ∈ Ts, T ∈ tyNames) → PySem.W.kitAny K (.ref Ca) (Ts.map Value.type) = some false
  | [], _ => rfl
  | x :: Ts, h => by
    rw [List.map_cons]
    have ih := kitAny_ins T (Ts := Ts) fun x hx => h x (List.mem_cons_of_mem _ hx)
    exact kitAny_cons (T.kit x (h x List.mem_cons_self)) (fun _ => ih) fun e => absurd e Bool.false_ne_true
theorem e_isx1 {T : String} {m : Lo → List O → R W} (F : Fc G C lvl c.fs) (g : Gx G lvl c X) (hgl : glB c "isinstance" = true) (hst : notStar a = true) (ha : PE X a (tV G Wx m)) (hT : T ∈ tyNames) (hglT : glB c T = true) {p2 : Pos} :
    PE X (.Call (.Name "isinstance" p) [a, .Name T p2] [] pos) (tV G Wx fun ℓ h => (m ℓ h).bind fun w h => isxW C [T] w h) := by
  refine PE.imp (pe_callB call_isi (g.gl hgl) (nm_blt F g (by decide)) (by decide +kernel) (pa_cons ha (pa_cons (e_tyName F g hT hglT) pa_nil (by rfl)) (star_ok hst)) (he := star_ok hst) (hpl := by rfl)) fun σ H Q ⟨ι, hh, ℓ, r, lr, q⟩ => ?_
  refine ⟨ι, hh, ℓ, r, lr, q.bind.imp fun w h1 ι1 H1 s1 r1 p1 v hv => ?_⟩
  rw [g.K]
  unfold isxW at p1
  split at p1
  · rename_i cn fs ei
    obtain ⟨c1, p1⟩ := p1.chk
    obtain ⟨Ca, k1, k2⟩ := ins_ty r1 hv ei
    have T1 := F.isn cn c1 Ca k1
    exact ⟨v, _, _, _, _, rfl, .ty T, k2 T1, T1.kit T hT, Wants.bl p1 r1⟩
  · exact isiW_one hT r1 hv p1
theorem e_isxT {Ts : List String} {qs : List Pos} {k : Nat} {m : Lo → List O → R W} (F : Fc G C lvl c.fs) (g : Gx G lvl c X) (hgl : glB c "isinstance" = true) (hst : notStar a = true) (ha : PE X a (tV G Wx m)) (hl : Ts.length = qs.length) (hn : Ts.length ≤ sizeLine)
    (hT : ∀ T ∈ Ts, T ∈ tyNames ∧ glB c T = true) {p2 : Pos} :
    PE X (.Call (.Name "isinstance" p) [a, .Tuple (tyExprs Ts qs) k p2] [] pos) (tV G Wx fun ℓ h => (m ℓ h).bind fun w h => isxW C Ts w h) := by
  refine PE.imp (pe_callB call_isiT (g.gl hgl) (nm_blt F g (by decide)) (by decide +kernel) (pa_cons ha (pa_cons (pe_tup (pa_tys F g hl hT)) pa_nil (by rfl)) (star_ok hst)) (he := star_ok hst) (hpl := by rfl)) fun σ H Q ⟨ι, hh, ℓ, r, lr, q⟩ => ?_
  refine ⟨ι, hh, ℓ, r, lr, q.bind.imp fun w h1 ι1 H1 s1 r1 p1 v hv => ?_⟩
  refine ⟨by rw [List.length_map]; exact hn, fun t ht => ?_⟩
  rw [g.K]
  have s2 : Step ι1 H1 ι1 (upd H1 t (.tup (Ts.map V.ty))) := Step.new ht
  have r2 := r1.new (o := .tup (Ts.map V.ty)) ht
  have hv2 := hv.mono s2
  have p2 := p1.later s2
  unfold isxW at p2
  split at p2
  · rename_i cn fs ei
    obtain ⟨c1, p2⟩ := p2.chk
    obtain ⟨Ca, k1, k2⟩ := ins_ty r2 hv2 ei
    have T1 := F.isn cn c1 Ca k1
    exact ⟨v, t, _, _, _, _, rfl, upd_same, clsAll Ts, k2 T1, kitAny_ins T1 fun T h => (hT T h).1, Wants.bl p2 r2⟩
  · unfold isiW at p2
    split at p2
    · rename_i tn et
      obtain ⟨h2, h3⟩ := ty_of r2 hv2 et
      exact ⟨v, t, _, _, _, _, rfl, upd_same, clsAll Ts, h2, kitAny7 h3 fun T h => (hT T h).1, Wants.bl p2 r2⟩
    · exact False.elim p2
/-- isinstance(x, C), C a class of the text -/
theorem e_isc {k : Str} {m : Lo → List O → R W} (F : Fc G C lvl c.fs) (g : Gx G lvl c X) (hgl : glB c "isinstance" = true) (hst : notStar a = true) (ha : PE X a (tV G Wx m)) (hglk : glB c k = true) (hd : debB k = true) {p2 : Pos} :
    PE X (.Call (.Name "isinstance" p) [a, .Name k p2] [] pos) (tV G Wx fun ℓ h => chk (C.isk k) ((m ℓ h).bind fun w h => iscW C w k h)) := by
  refine ⟨fun pins s σ H Q I ⟨ι, hh, ℓ, r, lr, q⟩ => ?_⟩
  obtain ⟨c1, q⟩ := Post.chk q
  obtain ⟨Ka, k1, k2, k3⟩ := F.isk k c1
  have nm : PE X (.Name k p2) (tC (.ref Ka)) := pe_glob (g.gl hglk) (by rw [g.mg]; exact k2) rfl (deb_of hd)
  refine (pe_callB call_isi (g.gl hgl) (nm_blt F g (by decide)) (by decide +kernel) (pa_cons ha (pa_cons nm pa_nil (by rfl)) (star_ok hst)) (he := star_ok hst) (hpl := by rfl)).run pins s σ H Q I ?_
  refine ⟨ι, hh, ℓ, r, lr, q.bind.imp fun w h1 ι1 H1 s1 r1 p1 v hv => ?_⟩
  rw [g.K]
  unfold iscW at p1
  split at p1
  · rename_i cn fs ei
    obtain ⟨b, eb, qq⟩ := oB_ok p1 r1
    obtain ⟨Ca, j1, j2⟩ := ins_ty r1 hv ei
    obtain ⟨T1, T2⟩ := F.sub cn k b eb Ca Ka j1 k1
    exact ⟨v, _, _, _, _, rfl, .own Ka, j2 T1, T2, qq⟩
  · split at p1
    · rename_i t et
      obtain ⟨h2, h3⟩ := ty_of r1 hv et
      exact ⟨v, _, _, _, _, rfl, .own Ka, h2, k3 t h3, Wants.bl p1 r1⟩
    · exact False.elim p1
end
end MP
set_option maxRecDepth 100000
set_option maxHeartbeats 4000000
/-! sorted of a text -/
namespace MP
open PySem PySem.Spec PyProof.Rows L2
theorem strsAre_signs {z : Str} : ∀ {n : Nat} {vs : List Value}, vs.length = z.cps.size - n → (∀ j v, vs[j]? = some v → SignAt z (n + j) v) → StrsAre vs ((z.cps.toList.drop n).map fun c => (⟨#[c]⟩ : Str))
  | n, [], hl, _ => by
    rw [List.drop_of_length_le (by rw [Array.length_toList]; simp at hl; omega)]
    exact .nil
  | n, v :: vs, hl, h => by
    obtain ⟨c, u, e, rfl⟩ := h 0 v rfl
    rw [Nat.add_zero] at e
    have hn : n < z.cps.size := (Array.getElem?_eq_some_iff.mp e).1
    have e2 : z.cps.toList.drop n = c :: z.cps.toList.drop (n + 1) := by
      rw [List.drop_eq_getElem_cons (by simpa using hn)]
      have : z.cps.toList[n] = c := by
        have := (Array.getElem?_eq_some_iff.mp e).2
        simpa using this
      rw [this]
    rw [e2, List.map_cons]
    refine .cons _ u (strsAre_signs (n := n + 1) (by simp at hl; omega) fun j v hj => ?_)
    have := h (j + 1) v (by simpa using hj)
    rwa [show n + 1 + j = n + (j + 1) by omega]
def rSortedStr : List V → Hp → VK → Prop := fun vs H Q => ∃ z : Str, vs = [V.str z] ∧ z.cps.size < 64 ∧ ∀ (ys : List Str) (p : Addr), ys.Perm (chS z) → sortedS ys = true → H p = none → Q (.ref p) (upd H p (.lst (ys.map V.str)))
theorem cr_sortedStr {X : Cx} (hc : X.calm = true) : CallR X (.builtin "sorted") rSortedStr := by
  intro pins s σ H vs us Q I r h
  obtain ⟨z, rfl, h64, q⟩ := h
  cases r with
  | @cons _ u0 _ ur ra rw' =>
    cases rw'
    obtain ⟨t, rfl⟩ := ra
    have hh : X.A.handled = none := I.ok.hd hc
    have hz : z.cps.size ≤ sizeLine := by rw [sizeLine_eq]; omega
    refine Calls.call_function_entry kind_sorted plain_sorted entry_sorted (args_sorted1 _) ?_
    unfold Builtin.«sorted»
    refine wpAny_bind (m := checkCount "sorted" 1 1 _) (wpAny_pure ?_)
    refine wpAny_bind (wpAny_collect_str (A := X.A.in1) hh z t (fun s' acc hk hg hd ho hacc => ?_) hz)
    obtain ⟨ha1, ha2⟩ := hacc
    have hS : StrsAre acc.toList (chS z) := by
      have := strsAre_signs (z := z) (n := 0) (vs := acc.toList) (by rw [Array.length_toList, ha1]; omega) fun j v hj => by
        rw [Nat.zero_add]
        exact ha2 j v (by simpa using hj)
      simpa [chS] using this
    have hl : acc.toList.length < 64 := by rw [Array.length_toList, ha1]; exact h64
    refine wpAny_bind (wpAny_newList ?_ (by rw [sizeLine_eq]; omega))
    obtain ⟨hp, g, d, tk, os⟩ := s
    obtain ⟨hp', g', d', tk', os'⟩ := s'
    dsimp only at hk hg hd ho
    subst hg
    subst hd
    subst ho
    have I1 := I.kept (t' := tk') hk
    have hoL : (hp'.push (seqObj "list" acc.toList.toArray 0)).get? hp'.objs.size = some (seqObj "list" acc.toList.toArray 0) := Heap.get?_push_size _ rfl
    refine wpAny_bind (wpAny_holding (wpAny_call_entry slot_list_sort ⟨_, hoL, rfl⟩ entry_list_sort (list_sort_treeK strKind_oneLt hoL hS.keysOf (fun v₁ v₂ rest e => keyKind_strs (by rw [← e]; exact hS)) hl fun st' a1 a2 => ⟨_, rfl, ?_⟩) (args_list_sort _)))
    obtain ⟨ys, h1, h2, h3⟩ := sorted_out_str hS a1 a2
    obtain ⟨ep, he'⟩ := sortedHeap_at (vs := acc.toList) (out := (arrOf st').map (·.2)) hoL
    have hlen : (ys.map V.str).length ≤ sizeLine := by
      rw [List.length_map, h2.length_eq]
      unfold chS
      rw [List.length_map, Array.length_toList]
      exact hz
    refine wpAny_pure ⟨_, rfl, .ref hp'.objs.size, upd H hp'.objs.size (.lst (ys.map V.str)), I1.laid (t' := tk') (fun b u hu => ?_) (Nat.le_refl _) ⟨hlen, ((arrOf st').map (·.2)).toList, ep, vals_of_strs h1, by
      have e : (((arrOf st').map (·.2)).toList).toArray = (arrOf st').map (·.2) := Array.toArray_toList
      rw [e]
      exact he'⟩, rfl, q ys _ h2 h3 (I1.hok.fresh (Nat.le_refl _))⟩
    have hlt : b < hp'.objs.size := Heap.lt_size hu
    rw [sortedHeap_old (Nat.ne_of_lt hlt) (by rw [Heap.size_push]; exact Nat.lt_succ_of_lt hlt)]
    exact Heap.get?_push_of_some _ hu
theorem leS_iff {a b : Str} : leS a b = true ↔ a.cps.toList ≤ b.cps.toList := by
  unfold leS
  rw [decide_eq_true_eq]
  exact List.not_lt
theorem leS_trans (a b c : Str) (h1 : leS a b = true) (h2 : leS b c = true) : leS a c = true := leS_iff.mpr (List.le_trans (leS_iff.mp h1) (leS_iff.mp h2))
theorem leS_total (a b : Str) : (leS a b || leS b a) = true := by
  rw [Bool.or_eq_true]
  rcases List.le_total a.cps.toList b.cps.toList with h | h
  · exact .inl (leS_iff.mpr h)
  · exact .inr (leS_iff.mpr h)
theorem leS_anti {a b : Str} (h1 : leS a b = true) (h2 : leS b a = true) : a = b := by
  have h := List.le_antisymm (leS_iff.mp h1) (leS_iff.mp h2)
  obtain ⟨⟨x⟩⟩ := a
  obtain ⟨⟨y⟩⟩ := b
  have h : x = y := h
  rw [h]
theorem rising_pw : ∀ (p : Str) (l : List Str), risingS p l = true → (∀ x ∈ l, leS p x = true) ∧ l.Pairwise (fun a b => leS a b = true)
  | p, [], _ => ⟨fun _ h => (nomatch h), List.Pairwise.nil⟩
  | p, x :: r, h => by
    have h : (!ltCps x.cps.toList p.cps.toList && risingS x r) = true := h
    rw [Bool.and_eq_true] at h
    obtain ⟨i1, i2⟩ := rising_pw x r h.2
    have hp : leS p x = true := by
      have := h.1
      rw [ltCps_eq] at this
      unfold leS
      simpa using this
    refine ⟨fun y hy => ?_, .cons (fun y hy => i1 y hy) i2⟩
    rcases List.mem_cons.mp hy with rfl | hy
    · exact hp
    · exact leS_trans p x y hp (i1 y hy)
theorem srt_uniq {ys xs : List Str} (h1 : ys.Perm xs) (h2 : sortedS ys = true) : ys = srtL xs := by
  have p1 : ys.Pairwise (fun a b => leS a b = true) := by
    cases ys with
    | nil => exact .nil
    | cons y ys =>
      obtain ⟨a, b⟩ := rising_pw y ys h2
      exact .cons a b
  exact List.Perm.eq_of_pairwise (fun a b _ _ => leS_anti) p1 (List.pairwise_mergeSort leS_trans leS_total xs) (h1.trans (List.mergeSort_perm xs leS).symm)
theorem callR_or {X : Cx} {f : Value} {r r' : List V → Hp → VK → Prop} (h : CallR X f r) (h' : CallR X f r') : CallR X f (fun xs H Q => r xs H Q ∨ r' xs H Q) := fun pins s σ H xs us Q I rv q => by
  rcases q with q | q
  · exact h pins s σ H xs us Q I rv q
  · exact h' pins s σ H xs us Q I rv q
section
variable {G : Pg} {lvl : Nat} {c : Ctx} {X : Cx} {Wx : WX} {C : Cn} {a : Expr} {pos p : Pos} {sa : Sm}
theorem vrs_strs {H : Hp} {ι : List Addr} : ∀ ys : List Str, VRs G H ι (ys.map W.str) (ys.map V.str)
  | [] => .nil
  | y :: ys => .cons (.str y) (vrs_strs ys)
theorem unStrs_eq {H : Hp} {ι : List Addr} : ∀ {ws : List W} {vs : List V} {ys : List Str}, VRs G H ι ws vs → unStrs ws = some ys → vs = ys.map V.str
  | _, _, ys, .nil, e => by cases e; rfl
  | w :: ws, v :: vs, ys, .cons r t, e => by
    cases r <;> first
      | (simp [unStrs] at e; done)
      | skip
    rename_i x
    rw [unStrs, Option.map_eq_some_iff] at e
    obtain ⟨ys', e1, rfl⟩ := e
    rw [unStrs_eq t e1]
    rfl
/-- sorted(x): a text, or a list of texts -/
theorem e_srt (F : Fc G C lvl c.fs) (g : Gx G lvl c X) (hgl : glB c "sorted" = true) (hst : notStar a = true) (ha : OkE G Wx X sa a) :
    PE X (.Call (.Name "sorted" p) [a] [] pos) (tL G Wx fun ℓ h => (sa.opd ℓ h).bind fun x h => srtO h x) := by
  refine PE.imp (pe_callB (callR_or (cr_sortedStr g.calm) cr_sortedS) (g.gl hgl) (nm_blt F g (by decide)) (by decide +kernel) (a_one ha.o hst) (he := star_ok hst) (hpl := rfl)) fun σ H Q ⟨ι, hh, ℓ, r, lr, q⟩ => ?_
  refine ⟨ι, hh, ℓ, r, lr, q.bind.imp fun x h1 ι1 H1 s1 r1 p1 v hv => ?_⟩
  have fin : ∀ {ys : List Str} {t : Addr} {xs : List Str}, ys.Perm xs → sortedS ys = true → H1 t = none → Post G Wx σ ι1 H1 (.ok ((srtL xs).map W.str) h1) (fun ws _ ι' H' => ∀ D vs, H D = none → D ∉ ι' → H' D = some (.lst vs) → VRs G H' ι' ws vs → Q (.ref D) H') → Q (.ref t) (upd H1 t (.lst (ys.map V.str))) := by
    intro ys t xs k1 k2 ht p2
    rw [← srt_uniq k1 k2] at p2
    have s4 : Step ι1 H1 ι1 (upd H1 t (.lst (ys.map V.str))) := Step.new ht
    exact p2 ι1 _ s4 (r1.new ht) t _ (s1.back ht) (r1.fresh ht) upd_same (vrs_strs ys)
  unfold srtO at p1
  split at p1
  · rename_i z
    obtain ⟨c1, p1⟩ := p1.chk
    cases (show VR G H1 ι1 _ v from hv)
    exact .inl ⟨z, rfl, of_decide_eq_true c1, fun ys t k1 k2 ht => fin k1 k2 ht p1⟩
  · obtain ⟨q', vs, ws, rfl, hs, hr, p4⟩ := lsqO_ok r1 hv p1.bind
    split at p4
    · rename_i ys ey
      obtain ⟨c1, p5⟩ := p4.chk
      have c1 := of_decide_eq_true c1
      have ev := unStrs_eq hr ey
      subst ev
      exact .inr ⟨q', ys, rfl, by rw [g.K]; exact hs, c1, fun ys' t k1 k2 ht => fin k1 k2 ht p5⟩
    · exact False.elim p4
end
end MP
set_option maxRecDepth 100000
set_option maxHeartbeats 4000000
/-! operations of one operand: a text's slice with a step, len(set(text)) -/
namespace MP
open PySem PySem.Spec PyProof.Rows L2
/-! ### sets of a text's signs -/
section
variable {prog : Program} {w : World} {A : Around} {R : Result → Shared → Prop} {I : Addr} {fp wr : List Addr} {G : Array GenState → Array GenState → Prop} {n : Nat} {P : Nat → Value → Prop} {St : Nat → Shared → Prop}
theorem loopStrG (W : WalksS prog w A.in1 I fp wr G n P St) (S : Addr) (hSf : S ∉ fp) (xs : List Str) (hsz : xs.length = n) (hn1 : n + 1 < scanBound)
    (hval : ∀ i v, P i v → ∃ t, v = .str (xs.getD i Str.empty) t) :
    ∀ (k i m : Nat) (s : Shared), n - i = k → i ≤ n → m ≤ i → St i s →
      s.heap.SetOf (PySem.strKind prog w) S (fun k' => (xs.take i).any (· == k')) m →
      (∀ s', Moved (S :: wr) G s s' → s'.heap.SetOf (PySem.strKind prog w) S (fun k' => (xs.take n).any (· == k')) (m + dctFrom (xs.take i) (xs.drop i)) → R (.ok (.ret .none)) s') →
      codeAny (model prog w) A (.builtin "set.update.loop" ⟨[.ref S, .ref I], []⟩) R s := by
  have hSw : S ∉ wr := fun h => hSf (W.sub _ h)
  have hsub : ∀ b ∈ wr, b ∈ S :: wr := fun b hb => List.mem_cons_of_mem _ hb
  intro k
  induction k with
  | zero =>
    intro i m s hk hi hm0 hst hS hR
    have hin : i = n := by omega
    subst hin
    refine codeAny_builtin PyProof.Rows.F.entry_set_update_loop ?_
    rw [Around.under_plainId PyProof.Rows.F.plain_set_update_loop _]
    show wpAny _ A.in1 (pyNext (.ref I) >>= _) _ _ s
    refine wpAny_bind (W.done s _ _ hst fun s' hm => ?_)
    show wpAny _ A.in1 (ret Value.none) _ _ s'
    rw [List.drop_of_length_le (by omega)] at hR
    exact wpAny_pure (hR s' (hm.mono hsub) (by
      obtain ⟨o, es, ep, t, ho, rest⟩ := hS
      exact ⟨o, es, ep, t, hm.heap S _ hSw ho, rest⟩))
  | succ k ih =>
    intro i m s hk hi hm0 hst hS hR
    have hlt : i < n := by omega
    refine codeAny_builtin PyProof.Rows.F.entry_set_update_loop ?_
    rw [Around.under_plainId PyProof.Rows.F.plain_set_update_loop _]
    show wpAny _ A.in1 (pyNext (.ref I) >>= _) _ _ s
    refine wpAny_bind (W.item i s _ _ hlt hst fun v s' hP hst' hm => ?_)
    obtain ⟨t, rfl⟩ := hval i v hP
    have hS' : s'.heap.SetOf (PySem.strKind prog w) S (fun k' => (xs.take i).any (· == k')) m := by
      obtain ⟨o, es, ep, tb, ho, rest⟩ := hS
      exact ⟨o, es, ep, tb, hm.heap S _ hSw ho, rest⟩
    show wpAny _ A.in1 (holding [Value.str (xs.getD i Str.empty) t] (setAdd S (.str (xs.getD i Str.empty) t)) >>= _) _ _ s'
    refine wpAny_bind (wpAny_holding ?_)
    unfold setAdd
    refine wpAny_holding ?_
    refine wpAny_bind ((PySem.strKind prog w).pyHash (k := xs.getD i Str.empty) (strKind_is _ _ _ _) ?_)
    refine wpAny_setAddHashed_of (knd := PySem.strKind prog w) (s := { s' with toks := s'.toks + 1 }) (strKind_is _ _ _ _) rfl hS' (by omega) fun h' hsb hS2 => ?_
    have hx : i < xs.length := by omega
    have eg : xs.getD i Str.empty = xs[i] := by simp [List.getD, hx]
    have et : xs.take (i + 1) = xs.take i ++ [xs[i]] := by rw [List.take_add_one, List.getElem?_eq_getElem hx]; rfl
    have ed : xs.drop i = xs[i] :: xs.drop (i + 1) := List.drop_eq_getElem_cons hx
    have hSi : h'.SetOf (PySem.strKind prog w) S (fun k' => (xs.take (i + 1)).any (· == k')) (if (xs.take i).any (· == xs[i]) = true then m else m + 1) := by
      refine SetOf_congr hS2 (fun k' => ?_) (by rw [eg])
      show ((xs.take i).any (· == k') || decide (k' = xs.getD i Str.empty)) = (xs.take (i + 1)).any (· == k')
      rw [eg, et, List.any_append]
      congr 1
      by_cases e : k' = xs[i]
      · subst e; simp
      · have hb : (xs[i] == k') = false := by simpa [beq_iff_eq] using (fun h' : xs[i] = k' => e h'.symm)
        simp [hb, e]
    refine wpAny_pure ⟨plainId_quiet PyProof.Rows.F.plain_set_update_loop _, ih (i + 1) (if (xs.take i).any (· == xs[i]) = true then m else m + 1) _ (by omega) hlt (by split <;> omega) (W.frame _ s' _ _ hst' (Nat.le_succ _) fun b hb o e => ?_) hSi fun s'' hm'' hS'' => ?_⟩
    · rw [hsb.2 b (fun h : b = S => hSf (by rw [← h]; exact hb))]; exact e
    · refine hR s'' (Moved.trans W.gtrans ((hm.mono hsub).then_heap (Nat.le_succ _) fun b o hb e => ?_) hm'') ?_
      · rw [hsb.2 b (fun h : b = S => hb (by rw [h]; exact List.mem_cons_self))]; exact e
      · rw [ed, dctFrom, ← et]
        have : (if (xs.take i).any (· == xs[i]) = true then m else m + 1) + dctFrom (xs.take (i + 1)) (xs.drop (i + 1)) = m + ((if (xs.take i).any (· == xs[i]) = true then 0 else 1) + dctFrom (xs.take (i + 1)) (xs.drop (i + 1))) := by split <;> omega
        rw [← this]
        exact hS''
end
section
variable {prog : Program} {w : World} {A : Around} {E : Value → Shared → Prop} {s : Shared}
set_option maxHeartbeats 3200000 in
theorem call_set_text {z : Str} {t : Tok} {Q : Value → Shared → Prop} (hh : A.handled = none) (hz : z.cps.size + 1 < scanBound)
    (h : ∀ (h' : Heap) (tk : Nat), h'.SetOf (PySem.strKind prog w) s.heap.objs.size (fun k' => ((chS z).take z.cps.size).any (· == k')) (dctFrom [] (chS z)) →
      (∀ b o, b < s.heap.objs.size → s.heap.get? b = some o → h'.get? b = some o) → Q (.ref s.heap.objs.size) { s with heap := h', toks := tk }) :
    wpAny (model prog w) A (call (.type "set") [.str z t]) Q E s := by
  obtain ⟨c, tl, hmro⟩ := PySem.F.called_set.mro
  have hmade := PySem.F.called_set.made
  have hsub := PySem.F.called_set.sub
  refine wpAny_call (codeAny_of_tree ?_)
  show wpAny _ _ (callAny (.type "set") _) _ _ _
  refine wpAny_pure ⟨Code.quiet_builtin _ (by decide +kernel), codeAny_builtin PySem.F.entry_type_call ?_⟩
  rw [Around.under_plain (weight_type_call_type "set" [.str z t] []) rfl]
  have h1 := PySem.F.called_set.notType
  have h2 := PySem.F.called_set.canCreate
  have hct := PySem.F.typeCall_set_1 (.str z t)
  repeat (any_goals (first | assumption | wp_step))

  refine codeAny_mono (code_set_new_1 (.str z t) (E := E) (Q₁ := fun obj s₁ => ∃ led : Bool, obj = .ref s.heap.objs.size ∧ s₁ = { s with heap := s.heap.push { cls := .type "set", dict := none, data := .set #[] 0 (.fresh 0 0 led) } }) fun led => ⟨led, rfl, rfl⟩) fun r s₁ hr => ?_
  cases r with
  | error e => exact hr
  | ok fl =>
    cases fl with
    | ret obj =>
      obtain ⟨led, rfl, rfl⟩ := hr
      have hS : (s.heap.push { cls := .type "set", dict := none, data := .set #[] 0 (.fresh 0 0 led) }).get? s.heap.objs.size = some { cls := .type "set", dict := none, data := .set #[] 0 (.fresh 0 0 led) } := Heap.get?_push_size _ rfl
      have hT : Shared.TypeIs { s with heap := s.heap.push { cls := .type "set", dict := none, data := .set #[] 0 (.fresh 0 0 led) } } (.ref s.heap.objs.size) "set" := ⟨_, hS, rfl⟩
      have hli := PySem.F.called_set.init.lookup
      have hbi := PySem.F.called_set.init.bind (.ref s.heap.objs.size)
      repeat (any_goals (first | assumption | wp_step))

      refine codeAny_mono (codeAny_call_builtin (R := wants (fun r s₂ => r = .none ∧ ∃ h' tk, s₂ = { s with heap := h', toks := tk } ∧
          h'.SetOf (PySem.strKind prog w) s.heap.objs.size (fun k' => ((chS z).take z.cps.size).any (· == k')) (dctFrom [] (chS z)) ∧
          (∀ b o, b < s.heap.objs.size → s.heap.get? b = some o → h'.get? b = some o)) E) PySem.F.called_set.init.plain PySem.F.entry_set_init (check_set_init_1 hT ?_)) fun r₂ s₂ hr₂ => ?_
      · have hsls := PySem.F.sub_str_set
        have hslf := PySem.F.sub_str_frozenset
        have hne : (Value.type "str" == Value.type "dict") = false := by decide
        unfold Builtin.«set.__init__» noKeywords Builtin.Frozenset.updateFrom
        generalize hPI : pyIter = PI
        wp_walk
        subst hPI
        refine wpAny_pyIter_str fun o St W hst => ?_
        refine wpAny_bind (wpAny_runValue ?_)
        have hh3 : A.in1.in1.in1.handled = none := by simp [hh]
        have hSf : s.heap.objs.size ∉ [(s.heap.push { cls := .type "set", dict := none, data := .set #[] 0 (.fresh 0 0 led) }).objs.size] := by
          rw [Heap.size_push, List.mem_singleton]
          exact Nat.ne_of_lt (Nat.lt_succ_self _)
        have hsz : (chS z).length = z.cps.size := by unfold chS; rw [List.length_map, Array.length_toList]
        have hval : ∀ (i : Nat) (v : Value), SignAt z i v → ∃ t, v = .str ((chS z).getD i Str.empty) t := fun i v ⟨c, u, e, hv⟩ => by
          refine ⟨u, ?_⟩
          rw [hv]
          congr 1
          unfold chS
          have e2 : z.cps.toList[i]? = some c := by rw [Array.getElem?_toList]; exact e
          simp [List.getD, e2]
        refine loopStrG ((W _ hh3).toS) s.heap.objs.size hSf (chS z) hsz hz hval (z.cps.size - 0) 0 0 _ (by omega) (Nat.zero_le _) (Nat.le_refl _) hst ?hS0 ?hR
        case hS0 =>
          have hget : ((s.heap.push { cls := .type "set", dict := none, data := .set #[] 0 (.fresh 0 0 led) }).push o).get? s.heap.objs.size
              = some { cls := .type "set", dict := none, data := .set #[] 0 (.fresh 0 0 led) } := Heap.get?_push_of_some _ hS
          exact PyProof.Rows.SetOf_congr ((PyProof.Rows.setObjOf_fresh (knd := PySem.strKind prog w) led).setOf hget (by unfold scanBound; omega)) (fun _ => rfl) rfl
        case hR =>
          intro s' hm hS'
          obtain ⟨h', g', d', tk', os'⟩ := s'
          have eg : g' = s.gens := hm.gens
          have ed : d' = s.drawn := hm.drawn
          have eo : os' = s.os := hm.os
          subst eg; subst ed; subst eo
          show wpAny _ _ _ _ _ _
          refine wpAny_pure ?_
          show wpAny _ _ (ret Value.none) _ _ _
          rw [Nat.zero_add] at hS'
          refine wpAny_pure ⟨rfl, h', tk', rfl, hS', fun b o hb e => ?_⟩
          have hb1 : b ≠ s.heap.objs.size := Nat.ne_of_lt hb
          have hb2 : b ≠ (s.heap.push { cls := .type "set", dict := none, data := .set #[] 0 (.fresh 0 0 led) }).objs.size := by
            rw [Heap.size_push]; exact Nat.ne_of_lt (Nat.lt_succ_of_lt hb)
          exact hm.heap b o (by simp only [List.mem_cons, List.not_mem_nil, or_false, not_or]; exact ⟨hb1, hb2⟩) (Heap.get?_push_of_some _ (Heap.get?_push_of_some _ e))
      · cases r₂ with
        | error e => exact hr₂
        | ok fl₂ =>
          cases fl₂ with
          | ret r =>
            obtain ⟨rfl, h', tk, rfl, hS', hk'⟩ := hr₂
            repeat (any_goals (first | assumption | wp_step))
            exact h _ _ hS' hk'
          | _ => exact hr₂.elim
    | _ => exact hr.elim
end

theorem dct_le : ∀ (r pre : List Str), dctFrom pre r ≤ r.length
  | [], _ => Nat.le_refl _
  | x :: r, pre => by
    have := dct_le r (pre ++ [x])
    rw [dctFrom, List.length_cons]
    split <;> omega
section
variable {X : Cx} {a : Expr} {ta : TE} {p p2 p3 q pos : Pos}
def tLset (ta : TE) : TE := fun σ H Q => ta σ H fun x H1 => ∃ z : Str, x = .str z ∧ z.cps.size < 1000 ∧ Q (.int (dctFrom [] (chS z) : Nat)) H1
theorem pe_lset (hc : X.calm = true) (hg : Gl X "len") (hm : X.mg "len" = none) (hg2 : Gl X "set") (hm2 : X.mg "set" = none) (ha : PE X a ta)
    (na : starEach [a] X.env = (false, eval a X.env) :: starEach [] X.env) : PE X (.Call (.Name "len" p) [.Call (.Name "set" p2) [a] [] q] [] pos) (tLset ta) := by
  refine ⟨fun pins s σ H Q I h => ?_⟩
  refine Call_ (ld_blt I hg hm boot_len ?_)
  refine PyProof.Rows.callWith_builtin1 (PyProof.Rows.args_cons ?_ rfl) rfl rfl
  refine Call_ (ld_blt I hg2 hm2 boot_set ?_)
  refine PyProof.Rows.callWith_type1 (PyProof.Rows.args_cons (thn (ha.run pins s σ H _ I h) fun v s1 ⟨x, H1, I1, r1, q1⟩ => PyProof.Rows.args_nil ?_) na) na rfl
  obtain ⟨z, rfl, hz, q1⟩ := q1
  obtain ⟨t, rfl⟩ := r1
  refine call_set_text (I1.ok.hd hc) (by unfold scanBound; omega) fun h' tk hS hk => ?_
  refine PyProof.Rows.args_nil ?_
  obtain ⟨o, es, ep, t2, ho, hex, hd, _, _, _, hf, hn⟩ := hS
  have I2 : Inv X pins σ H1 { s1 with heap := h', toks := tk } := I1.kept fun b o e => hk b o (Heap.lt_size e) e
  have hl : (chS z).length = z.cps.size := by unfold chS; rw [List.length_map, Array.length_toList]
  have hd2 := dct_le (chS z) []
  refine call_len_set ho hex hd hf (by rw [hn] <;> omega) ⟨.int _, H1, I2.tok _, ⟨_, by rw [hn]⟩, q1⟩
/-- x[lo:hi:k] of a text; the parts are written numbers -/
def litO : Option Expr → Option (Option Int)
  | none => some none
  | some (.Constant (.int i) _ _) => some (some i)
  | some (.UnaryOp .USub (.Constant (.int i) _ _) _) => some (some (-i))
  | _ => none
theorem po_lit {e : Option Expr} {o : Option Int} (h : litO e = some o) : PO X e (fun _ H Q => Q o H) := by
  unfold litO at h
  split at h
  · cases h
    exact po_none
  · cases h
    exact PO.imp (po_some pe_int) fun σ H Q q => ⟨_, rfl, q⟩
  · cases h
    exact PO.imp (po_some (pe_un un_neg pe_int)) fun σ H Q q => ⟨_, rfl, _, rfl, q⟩
  · cases h
def tSst (lo hi : Option Int) (k : Int) (te : TE) : TE := fun σ H Q => te σ H fun x H1 => ∃ z, x = .str z ∧ z.length ≤ sizeLine ∧ k ≠ 0 ∧ k ≠ 1 ∧ Q (.str (stpS z lo hi k)) H1
theorem pe_sst {lo hi : Option Int} {k : Int} {l u st : Option Expr} (he : PE X a ta) (hl : litO l = some lo) (hu : litO u = some hi) (hk : litO st = some (some k)) : PE X (.Subscript a (.Slice l u st p3) pos) (tSst lo hi k ta) := by
  obtain ⟨st, rfl⟩ : ∃ e, st = some e := by
    cases st with
    | none => cases hk
    | some e => exact ⟨e, rfl⟩
  refine ⟨fun pins s σ H Q I h => ?_⟩
  refine Subscript_ (thn (he.run pins s σ H _ I h) fun v s1 ⟨x, H1, I1, r1, q1⟩ => ?_)
  obtain ⟨z, ex, hz, k0, k1, q⟩ := q1
  subst ex
  obtain ⟨t, rfl⟩ := r1
  refine wpAny_Slice (thn ((po_lit hl).run pins s1 σ H1 (fun o H2 => o = lo ∧ H2 = H1) I1 ⟨rfl, rfl⟩) fun vl s2 ⟨l', H2, I2, pl, el, e2⟩ => ?_)
  subst el e2
  refine thn ((po_lit hu).run pins s2 σ H2 (fun o H3 => o = hi ∧ H3 = H2) I2 ⟨rfl, rfl⟩) fun vu s3 ⟨u', H3, I3, pu, eu, e3⟩ => ?_
  subst eu e3
  refine thn ((po_lit hk).run pins s3 σ H3 (fun o H4 => o = some k ∧ H4 = H3) I3 ⟨rfl, rfl⟩) fun vs s4 ⟨o, H4, I4, ps, eo, e4⟩ => ?_
  subst eo e4
  have I5 : Inv X pins σ H4 { s4 with heap := s4.heap.push { cls := .type "slice", data := .fields #[vl, vu, vs] } } := I4.kept (t' := s4.toks) fun b ob q => Heap.get?_push_of_some _ q
  obtain ⟨l2, rfl, rfl⟩ := IsPart.raw pl
  obtain ⟨u2, rfl, rfl⟩ := IsPart.raw pu
  obtain ⟨k2, rfl, ek⟩ := IsPart.raw ps
  obtain ⟨⟨k3, tk⟩, rfl, rfl⟩ : ∃ p : Int × Tok, k2 = some p ∧ p.1 = k := by
    cases k2 with
    | none => cases ek
    | some p => exact ⟨p, rfl, by simpa using ek⟩
  refine tail_any (ops := [.str z t, .ref s4.heap.objs.size]) (typeIs_str _ _ _) F.slot_str_getitem.lookup ?_ (by with_unfolding_all rfl)
  refine wpAny_getItem_str_slice (l := l2) (u := u2) (st := some (k3, tk)) ⟨_, Heap.get?_push_size _ rfl, rfl, rfl⟩ (by simpa using k0) ?_
  have hb : ((((some (k3, tk)).map (·.1)).getD 1 == 1) && (slicePicked z l2 u2 (some (k3, tk))).length == z.length) = false := by
    have : (((some (k3, tk)).map (·.1)).getD 1 == 1) = false := by simpa using k1
    rw [this]; rfl
  show Made.post (if _ then _ else _) _ _
  rw [if_neg (by rw [hb]; exact Bool.false_ne_true)]
  have hle : (stpS z (l2.map (·.1)) (u2.map (·.1)) k3).length ≤ sizeLine := by
    refine Nat.le_trans ?_ hz
    show (List.filterMap _ _).toArray.size ≤ z.length
    rw [List.size_toArray]
    exact Nat.le_trans (List.length_filterMap_le _ _) (sliceIndicesBy_le _ _ _ k0 z.length)
  exact ⟨hle, .str _, H4, I5.tok _, ⟨_, rfl⟩, q⟩
end
section
variable {G : Pg} {lvl : Nat} {c : Ctx} {X : Cx} {Wx : WX} {C : Cn} {a x e : Expr} {pos p : Pos} {sa : Sm}
/-- the operand of an operation in the text -/
def p1B (c : Ctx) (o : P1) (e : Expr) : Option Expr := match o, e with
  | .sst lo hi k, .Subscript x (.Slice l u st _) _ => if litO l = some lo ∧ litO u = some hi ∧ litO st = some (some k) then some x else none
  | .lset, .Call (.Name f _) [.Call (.Name g _) [x] [] _] [] _ => if f = "len" ∧ g = "set" ∧ glB c "len" = true ∧ glB c "set" = true ∧ notStar x = true then some x else none
  | _, _ => none
theorem p1_pl {o : P1} (h : p1B c o e = some x) : plT e = true := by
  unfold p1B at h
  split at h <;> first | rfl | cases h
theorem p1_ok {o : P1} (F : Fc G C lvl c.fs) (g : Gx G lvl c X) (h : p1B c o e = some x) (ha : OkE G Wx X sa x) : PE X e (tV G Wx fun ℓ h => (sa.opd ℓ h).bind fun x h => p1R o x h) := by
  unfold p1B at h
  split at h
  · split at h
    · rename_i hh
      cases h
      obtain ⟨h1, h2, h3⟩ := hh
      refine PE.imp (pe_sst ha.o h1 h2 h3) fun σ H Q ⟨ι, hh, ℓ, r, lr, q⟩ => ?_
      refine ⟨ι, hh, ℓ, r, lr, q.bind.imp fun x h1 ι1 H1 s1 r1 p1 v hv => ?_⟩
      unfold p1R at p1
      split at p1
      · rename_i e1
        cases e1
        obtain ⟨c1, p1⟩ := p1.chk
        cases (show VR G H1 ι1 _ v from hv)
        have c1 := of_decide_eq_true c1
        exact ⟨_, rfl, c1.1, c1.2.1, c1.2.2, Wants.str p1 r1⟩
      · rename_i e1
        cases e1
      · exact False.elim p1
    · cases h
  · split at h
    · rename_i hh
      cases h
      obtain ⟨rfl, rfl, h1, h2, h3⟩ := hh
      refine PE.imp (pe_lset g.calm (g.gl h1) (nm_blt F g (by decide)) (g.gl h2) (nm_blt F g (by decide)) ha.o (star_ok h3)) fun σ H Q ⟨ι, hh, ℓ, r, lr, q⟩ => ?_
      refine ⟨ι, hh, ℓ, r, lr, q.bind.imp fun x h1 ι1 H1 s1 r1 p1 v hv => ?_⟩
      unfold p1R at p1
      split at p1
      · rename_i e1
        cases e1
      · obtain ⟨c1, p1⟩ := p1.chk
        cases (show VR G H1 ι1 _ v from hv)
        exact ⟨_, rfl, of_decide_eq_true c1, Wants.int p1 r1⟩
      · exact False.elim p1
    · cases h
  · cases h
end
end MP
set_option maxRecDepth 100000
set_option maxHeartbeats 4000000
namespace MP
open PySem PySem.Spec PyProof.Rows L2

/-! ### statements -/
inductive Fl where
  | nx | rt (w : W) | bk | ct
inductive RS where
  | ok (f : Fl) (ℓ : Lo) (h : List O)
  | exc (x : Exn) (ℓ : Lo) (h : List O)
  | stuck
def liftE {α : Type} (ℓ : Lo) (r : R α) (f : α → List O → RS) (_t : Tag f := .mk) : RS := match r with
  | .ok a h => f a h
  | .exc x h => .exc x ℓ h
  | .stuck => .stuck
@[simp] theorem liftE_ok {α : Type} (ℓ : Lo) (a : α) (h : List O) (f : α → List O → RS) : liftE ℓ (.ok a h) f = f a h := rfl
@[simp] theorem liftE_exc {α : Type} (ℓ : Lo) (x : Exn) (h : List O) (f : α → List O → RS) : liftE ℓ (.exc x h : R α) f = .exc x ℓ h := rfl
def seqS (r : RS) (f : Lo → List O → RS) : RS := match r with
  | .ok .nx ℓ h => f ℓ h
  | r => r
@[simp] theorem seqS_nx (ℓ : Lo) (h : List O) (f : Lo → List O → RS) : seqS (.ok .nx ℓ h) f = f ℓ h := rfl
@[simp] theorem seqS_rt (w : W) (ℓ : Lo) (h : List O) (f : Lo → List O → RS) : seqS (.ok (.rt w) ℓ h) f = .ok (.rt w) ℓ h := rfl
@[simp] theorem seqS_bk (ℓ : Lo) (h : List O) (f : Lo → List O → RS) : seqS (.ok .bk ℓ h) f = .ok .bk ℓ h := rfl
@[simp] theorem seqS_ct (ℓ : Lo) (h : List O) (f : Lo → List O → RS) : seqS (.ok .ct ℓ h) f = .ok .ct ℓ h := rfl
@[simp] theorem seqS_exc (x : Exn) (ℓ : Lo) (h : List O) (f : Lo → List O → RS) : seqS (.exc x ℓ h) f = .exc x ℓ h := rfl
/-- behind a turn of a loop -/
def turnS (r : RS) (f : Lo → List O → RS) : RS := match r with
  | .ok .nx ℓ h => f ℓ h
  | .ok .ct ℓ h => f ℓ h
  | .ok .bk ℓ h => .ok .nx ℓ h
  | r => r
@[simp] theorem turnS_nx (ℓ : Lo) (h : List O) (f : Lo → List O → RS) : turnS (.ok .nx ℓ h) f = f ℓ h := rfl
@[simp] theorem turnS_ct (ℓ : Lo) (h : List O) (f : Lo → List O → RS) : turnS (.ok .ct ℓ h) f = f ℓ h := rfl
@[simp] theorem turnS_bk (ℓ : Lo) (h : List O) (f : Lo → List O → RS) : turnS (.ok .bk ℓ h) f = .ok .nx ℓ h := rfl
@[simp] theorem turnS_rt (w : W) (ℓ : Lo) (h : List O) (f : Lo → List O → RS) : turnS (.ok (.rt w) ℓ h) f = .ok (.rt w) ℓ h := rfl
@[simp] theorem turnS_exc (x : Exn) (ℓ : Lo) (h : List O) (f : Lo → List O → RS) : turnS (.exc x ℓ h) f = .exc x ℓ h := rfl
def chkS (b : Bool) (r : RS) : RS := if b = true then r else .stuck
@[simp] theorem chkS_true (r : RS) : chkS true r = r := rfl
def forL (f : W → Lo → List O → RS) (gs : Gd) : List W → Lo → List O → RS
  | [], ℓ, h => chkS (gsOk h gs) (.ok .nx ℓ h)
  | w :: ws, ℓ, h => chkS (gsOk h gs) (turnS (f w ℓ h) (forL f gs ws))
def whileL (c : Lo → List O → R Bool) (f : Lo → List O → RS) : Nat → Lo → List O → RS
  | 0, _, _ => .stuck
  | n + 1, ℓ, h => liftE ℓ (c ℓ h) fun b h => if b = true then turnS (f ℓ h) (whileL c f n) else .ok .nx ℓ h
/-- an exception met by a clause -/
structure Cc where
  cn : Cn
  /-- is the first class one of the second -/
  isA : Str → Str → Option Bool
  /-- the exceptions that are made, each with its field -/
  exs : List (Str × Str)
/-- what a clause hands back -/
def hxW (C : Cc) (x : Exn) : List Hx → Option (List W)
  | [] => some []
  | .lit s :: r => (hxW C x r).map (.str s :: ·)
  | .fld f :: r => if (x.cls, f) ∈ C.exs then (x.fs.lookup f).bind fun w => (hxW C x r).map (w :: ·) else none
/-- a value as repr shows it -/
def shD (h : List O) (w : W) : Option Str := (toD h dDepth w).bind fun d => if (d.showable && decide (d.shown.length ≤ sizeLine)) = true then some d.shown else none
/-- do a field and a name look alike -/
def hrq (C : Cc) (x : Exn) (f : Str) (j : Nat) (ℓ : Lo) (h : List O) : Option Bool := if (x.cls, f) ∈ C.exs then (x.fs.lookup f).bind fun w => (getL ℓ j).bind fun u => (shD h w).bind fun s => (shD h u).map fun t => decide (s = t) else none
/-- what a clause does -/
def hrS (C : Cc) (x : Exn) (r : Hr) (ℓ : Lo) (h : List O) : RS := match r with
  | .lst items => match hxW C x items with
    | some ws => chkS (decide (ws.length ≤ sizeLine)) (.ok (.rt (.slst ws)) ℓ h)
    | none => .stuck
  | .eqr f j => match hrq C x f j ℓ h with
    | some b => .ok (.rt (.bl b)) ℓ h
    | none => .stuck
  | .ifr f j a b => match hrq C x f j ℓ h with
    | some k => .ok (.rt (if k = true then a else b)) ℓ h
    | none => .stuck
/-- the clauses, one after the other -/
def catchS (C : Cc) (x : Exn) : List Hd → Lo → List O → RS
  | [], ℓ, h => .exc x ℓ h
  | d :: ds, ℓ, h => match C.isA x.cls d.cls with
    | some true => hrS C x d.ret ℓ h
    | some false => catchS C x ds ℓ h
    | none => .stuck
mutual
def evS (C : Cc) : Ms → Lo → List O → RS
  | .asg t e => fun ℓ h => liftE ℓ ((ev C.cn e).v ℓ h) fun w h => liftE ℓ (noX (evt C.cn t w ℓ h)) fun ℓ h => .ok .nx ℓ h
  | .par i j a b => fun ℓ h => liftE ℓ ((ev C.cn a).v ℓ h) fun x h => liftE ℓ ((ev C.cn b).v ℓ h) fun y h => .ok .nx ((ℓ.set i (some x)).set j (some y)) h
  | .par3 i j l a b d => fun ℓ h => liftE ℓ ((ev C.cn a).v ℓ h) fun x h => liftE ℓ ((ev C.cn b).v ℓ h) fun y h => liftE ℓ ((ev C.cn d).v ℓ h) fun z h => .ok .nx (((ℓ.set i (some x)).set j (some y)).set l (some z)) h
  | .expr e => fun ℓ h => liftE ℓ ((ev C.cn e).v ℓ h) fun _ h => .ok .nx ℓ h
  | .ret e => fun ℓ h => liftE ℓ ((ev C.cn e).v ℓ h) fun w h => .ok (.rt w) ℓ h
  | .retN => fun ℓ h => .ok (.rt .non) ℓ h
  | .pass => fun ℓ h => .ok .nx ℓ h
  | .brk => fun ℓ h => .ok .bk ℓ h
  | .cont => fun ℓ h => .ok .ct ℓ h
  | .ife c a b => fun ℓ h => liftE ℓ ((ev C.cn c).t ℓ h) fun k h => if k = true then evSs C a ℓ h else evSs C b ℓ h
  | .for t s b => fun ℓ h => liftE ℓ (evi C.cn s ℓ h) fun r h => forL (fun w ℓ h => liftE ℓ (noX (evt C.cn t w ℓ h)) fun ℓ h => evSs C b ℓ h) r.2 r.1 ℓ h
  | .while c b => fun ℓ h => whileL (ev C.cn c).t (evSs C b) C.cn.fuel ℓ h
  | .raise c f e => fun ℓ h => liftE ℓ ((ev C.cn e).v ℓ h) fun w h => .exc ⟨c, [(f, w)]⟩ ℓ h
  | .nev => fun _ _ => .stuck
  | .sat a f e => fun ℓ h => liftE ℓ ((ev C.cn e).v ℓ h) fun w h => liftE ℓ ((ev C.cn a).v ℓ h) fun x h => liftE ℓ (satW C.cn x f w h) fun _ h => .ok .nx ℓ h
  | .try b hs => fun ℓ h => match evSs C b ℓ h with
    | .ok f ℓ h => .ok f ℓ h
    | .exc x ℓ h => catchS C x hs ℓ h
    | .stuck => .stuck
def evSs (C : Cc) : Mss → Lo → List O → RS
  | .nil => fun ℓ h => .ok .nx ℓ h
  | .cons s .nil => evS C s
  | .cons s (.cons s2 ss) => fun ℓ h => seqS (evS C s ℓ h) (evSs C (.cons s2 ss))
end

/-! ### ends -/
def PostS (G : Pg) (Wx : WX) (ι : List Addr) (H : Hp) (r : RS) (k : Fl → Lo → List O → List Addr → Hp → L2.St → Prop) : Prop := match r with
  | .ok f ℓ h' => ∀ ι' H' σ', Step ι H ι' H' → Rel G h' ι' H' → LR G H' ι' ℓ σ' → k f ℓ h' ι' H' σ'
  | .exc x ℓ h' => ∀ ι' H' σ' cls d, Step ι H ι' H' → Rel G h' ι' H' → LR G H' ι' ℓ σ' → XR G H' ι' x cls d → Wx cls d σ' H'
  | .stuck => False
/-- the ends as told -/
def DK (G : Pg) (D : Ends) : Fl → Lo → List O → List Addr → Hp → L2.St → Prop := fun f _ _ ι H σ => match f with
  | .nx => D.nx σ H
  | .rt w => ∀ v, VR G H ι w v → D.rt v H
  | .bk => D.bk σ H
  | .ct => D.ct σ H
section
variable {G : Pg} {Wx : WX} {ι ι1 : List Addr} {H H1 : Hp} {σ : L2.St} {ℓ : Lo} {h : List O} {k k' : Fl → Lo → List O → List Addr → Hp → L2.St → Prop}
theorem PostS.imp {r : RS} (p : PostS G Wx ι H r k) (f : ∀ f ℓ h' ι' H' σ', Step ι H ι' H' → Rel G h' ι' H' → LR G H' ι' ℓ σ' → k f ℓ h' ι' H' σ' → k' f ℓ h' ι' H' σ') : PostS G Wx ι H r k' := by
  cases r with
  | ok a ℓ h' => exact fun ι' H' σ' s q l => f a ℓ h' ι' H' σ' s q l (p ι' H' σ' s q l)
  | exc x ℓ h' => exact p
  | stuck => exact p
theorem PostS.later {r : RS} (p : PostS G Wx ι H r k) (s : Step ι H ι1 H1) : PostS G Wx ι1 H1 r k := by
  cases r with
  | ok a ℓ h' => exact fun ι' H' σ' t q l => p ι' H' σ' (s.trans t) q l
  | exc x ℓ h' => exact fun ι' H' σ' cls d t q l => p ι' H' σ' cls d (s.trans t) q l
  | stuck => exact p
theorem PostS.lift {α : Type} {r : R α} {f : α → List O → RS} (p : PostS G Wx ι H (liftE ℓ r f) k) (lr : LR G H ι ℓ σ) : Post G Wx σ ι H r fun a h1 ι1 H1 => PostS G Wx ι1 H1 (f a h1) k := by
  cases r with
  | ok a h' =>
    intro ι' H' s q
    have p' : PostS G Wx ι H (f a h') k := p
    exact p'.later s
  | exc x h' => exact fun ι' H' cls d s q x => p ι' H' σ cls d s q (lr.mono s) x
  | stuck => exact p
theorem PostS.ok {f : Fl} (p : PostS G Wx ι H (.ok f ℓ h) k) (r : Rel G h ι H) (l : LR G H ι ℓ σ) : k f ℓ h ι H σ := p ι H σ .refl r l
theorem PostS.chk {b : Bool} {r : RS} (p : PostS G Wx ι H (chkS b r) k) : b = true ∧ PostS G Wx ι H r k := by
  cases b with
  | true => exact ⟨rfl, p⟩
  | false => exact False.elim p
end
/-- a statement -/
def tSt (G : Pg) (Wx : WX) (m : Lo → List O → RS) : TS := fun D σ H => ∃ ι h ℓ, Rel G h ι H ∧ LR G H ι ℓ σ ∧ PostS G Wx ι H (m ℓ h) (DK G D)
section
variable {G : Pg} {lvl : Nat} {c : Ctx} {X : Cx} {Wx : WX} {C : Cc} {a b d e tg : Expr} {es : List Expr} {pos p p2 apos : Pos} {sa sb sc : Sm} {st : Stmt} {sts stb : List Stmt}
structure Sx (G : Pg) (lvl : Nat) (c : Ctx) (X : Cx) (Wx : WX) : Prop where
  g : Gx G lvl c X
  tk : Takes X Wx
  ps : PassesOwn (model X.prog X.w) X.A X.env X.xe
  stk : X.stack = X.env :: X.outer
  fr : X.env.frame = some X.env.locals
  sn : c.sets = c.names

theorem s_nil : PSs X [] (tSt G Wx fun ℓ h => .ok .nx ℓ h) := PSs.imp pss_nil fun D σ H ⟨ι, hh, ℓ, r, lr, p⟩ => p.ok r lr
theorem s_one {m : Lo → List O → RS} (h : PS X st (tSt G Wx m)) : PSs X [st] (tSt G Wx m) := pss_one h
theorem s_cons {m ms : Lo → List O → RS} (h : PS X st (tSt G Wx m)) (hr : PSs X sts (tSt G Wx ms)) : PSs X (st :: sts) (tSt G Wx fun ℓ h => seqS (m ℓ h) ms) := by
  refine PSs.imp (pss_cons h hr) fun D σ H ⟨ι, hh, ℓ, r, lr, p⟩ => ?_
  refine ⟨ι, hh, ℓ, r, lr, ?_⟩
  have p : PostS G Wx ι H (seqS (m ℓ hh) ms) (DK G D) := p
  revert p
  cases m ℓ hh with
  | stuck => exact fun p => p
  | exc x ℓ' h' => exact fun p => p
  | ok f ℓ' h' =>
    cases f with
    | nx =>
      intro p ι' H' σ' s q l
      have p' : PostS G Wx ι H (ms ℓ' h') (DK G D) := p
      exact ⟨ι', h', ℓ', q, l, p'.later s⟩
    | rt w => exact fun p => p
    | bk => exact fun p => p
    | ct => exact fun p => p
/-- the value is no comprehension -/
def notComp : Expr → Bool | .ListComp _ _ _ _ => false | .SetComp _ _ _ _ => false | .DictComp _ _ _ _ _ => false | _ => true
def notName : Expr → Bool | .Name _ _ => false | _ => true
theorem sw_ok {t : Option Expr} {l : Nat} {env : Env} (h : notComp e = true) : swapsWith e t l env = pure false := by
  cases e <;> first | rfl | exact absurd h Bool.false_ne_true
theorem sw_okT {l : Nat} {env : Env} (h : notName tg = true) : swapsWith e (some tg) l env = pure false := by
  cases e <;> cases tg <;> first | rfl | exact absurd h Bool.false_ne_true
def notPar : Expr → Expr → Bool | .Tuple _ _ _, .Tuple _ _ _ => false | .List _ _, .Tuple _ _ _ => false | _, _ => true
theorem st_ok {env : Env} (h : notPar tg e = true) : swappedStores [tg] e env = pure none := by
  cases tg <;> cases e <;> first | rfl | exact absurd h Bool.false_ne_true
theorem s_asg' {T : List Nat} {mv : Lo → List O → R W} {mt : Tg} (he : PE X e (tV G Wx mv)) (hg : PG X tg (tG G T mt)) (hs : (notComp e || notName tg) = true) (hw : swappedStores [tg] e X.env = pure none) (hn : notStar tg = true) :
    PS X (.Assign [tg] e pos) (tSt G Wx fun ℓ h => liftE ℓ (mv ℓ h) fun w h => liftE ℓ (noX (mt w ℓ h)) fun ℓ h => .ok .nx ℓ h) := by
  refine PS.imp (ps_asg he hg (hs := ?_) (hw := hw) (h1 := by rw [assign_ok hn]; rfl)) fun D σ H ⟨ι, hh, ℓ, r, lr, p⟩ => ?_
  · show swapsWith e (some tg) pos.line X.env = pure false
    rw [Bool.or_eq_true] at hs
    rcases hs with hs | hs
    · exact sw_ok hs
    · exact sw_okT hs
  · refine ⟨ι, hh, ℓ, r, lr, (PostS.lift p lr).imp fun w h1 ι1 H1 s1 r1 p1 v hv => ?_⟩
    refine ⟨ι1, h1, ℓ, w, r1, lr.mono s1, hv, (Post.noX (p1.lift (lr.mono s1))).imp fun ℓ2 h2 ι2 H2 s2 r2 p2 σ2 lr2 sl2 => ?_⟩
    exact p2.ok r2 lr2
theorem s_asg {T : List Nat} {mv : Lo → List O → R W} {mt : Tg} (he : PE X e (tV G Wx mv)) (hg : PG X tg (tG G T mt)) (hs : (notComp e || notName tg) = true) (hw : notPar tg e = true) (hn : notStar tg = true) :
    PS X (.Assign [tg] e pos) (tSt G Wx fun ℓ h => liftE ℓ (mv ℓ h) fun w h => liftE ℓ (noX (mt w ℓ h)) fun ℓ h => .ok .nx ℓ h) := s_asg' he hg hs (st_ok hw) hn
theorem s_expr {mv : Lo → List O → R W} (he : PE X e (tV G Wx mv)) (hs : notComp e = true) : PS X (.Expr e pos) (tSt G Wx fun ℓ h => liftE ℓ (mv ℓ h) fun _ h => .ok .nx ℓ h) := by
  refine PS.imp (ps_expr he (hs := sw_ok hs)) fun D σ H ⟨ι, hh, ℓ, r, lr, p⟩ => ?_
  exact ⟨ι, hh, ℓ, r, lr, (PostS.lift p lr).imp fun w h1 ι1 H1 s1 r1 p1 v hv => p1.ok r1 (lr.mono s1)⟩
theorem s_ret {mv : Lo → List O → R W} (he : PE X e (tV G Wx mv)) : PS X (.Return (some e) pos) (tSt G Wx fun ℓ h => liftE ℓ (mv ℓ h) fun w h => .ok (.rt w) ℓ h) := by
  refine PS.imp (ps_ret he) fun D σ H ⟨ι, hh, ℓ, r, lr, p⟩ => ?_
  exact ⟨ι, hh, ℓ, r, lr, (PostS.lift p lr).imp fun w h1 ι1 H1 s1 r1 p1 v hv => p1.ok r1 (lr.mono s1) v hv⟩
theorem s_retN : PS X (.Return none pos) (tSt G Wx fun ℓ h => .ok (.rt .non) ℓ h) := PS.imp ps_retN fun D σ H ⟨ι, hh, ℓ, r, lr, p⟩ => p.ok r lr .non .non
theorem s_pass : PS X (.Pass pos) (tSt G Wx fun ℓ h => .ok .nx ℓ h) := PS.imp ps_pass fun D σ H ⟨ι, hh, ℓ, r, lr, p⟩ => p.ok r lr
theorem s_brk : PS X (.Break pos) (tSt G Wx fun ℓ h => .ok .bk ℓ h) := PS.imp ps_break fun D σ H ⟨ι, hh, ℓ, r, lr, p⟩ => p.ok r lr
theorem s_cont : PS X (.Continue pos) (tSt G Wx fun ℓ h => .ok .ct ℓ h) := PS.imp ps_continue fun D σ H ⟨ι, hh, ℓ, r, lr, p⟩ => p.ok r lr
theorem s_if {mc : Lo → List O → R Bool} {ma mb : Lo → List O → RS} (hc : PT X e (tT G Wx mc)) (ha : PSs X sts (tSt G Wx ma)) (hb : PSs X stb (tSt G Wx mb)) :
    PS X (.If e sts stb pos) (tSt G Wx fun ℓ h => liftE ℓ (mc ℓ h) fun k h => if k = true then ma ℓ h else mb ℓ h) := by
  refine PS.imp (ps_if hc ha hb) fun D σ H ⟨ι, hh, ℓ, r, lr, p⟩ => ?_
  refine ⟨ι, hh, ℓ, r, lr, (PostS.lift p lr).imp fun k h1 ι1 H1 s1 r1 p1 => ?_⟩
  cases k with
  | true => exact iteT ⟨ι1, h1, ℓ, r1, lr.mono s1, p1⟩
  | false => exact iteF ⟨ι1, h1, ℓ, r1, lr.mono s1, p1⟩
/-- behind a turn -/
theorem turn_ends {r : RS} {f : Lo → List O → RS} {ι : List Addr} {H : Hp} {D : Ends} {N : L2.St → Hp → Prop} (p : PostS G Wx ι H (turnS r f) (DK G D)) (hN : ∀ ℓ1 h1 ι1 H1 σ1, Step ι H ι1 H1 → Rel G h1 ι1 H1 → LR G H1 ι1 ℓ1 σ1 → PostS G Wx ι1 H1 (f ℓ1 h1) (DK G D) → N σ1 H1) :
    PostS G Wx ι H r (DK G { D with nx := N, ct := N, bk := D.nx }) := by
  cases r with
  | stuck => exact p
  | exc x ℓ' h' => exact p
  | ok fl ℓ' h' =>
    cases fl with
    | nx => exact fun ι' H' σ' s q l => hN ℓ' h' ι' H' σ' s q l (PostS.later (show PostS G Wx ι H (f ℓ' h') (DK G D) from p) s)
    | ct => exact fun ι' H' σ' s q l => hN ℓ' h' ι' H' σ' s q l (PostS.later (show PostS G Wx ι H (f ℓ' h') (DK G D) from p) s)
    | rt w => exact p
    | bk => exact p
theorem s_for {T : List Nat} {mi : Lo → List O → R (List W × Gd)} {mt : Tg} {mb : Lo → List O → RS} (S : Sx G lvl c X Wx) (hi : PI X tg e (tI G Wx mi)) (hg : PG X tg (tG G T mt)) (hb : PSs X sts (tSt G Wx mb)) (hs : notSet e = true) :
    PS X (.For tg e sts [] pos) (tSt G Wx fun ℓ h => liftE ℓ (mi ℓ h) fun r h => forL (fun w ℓ h => liftE ℓ (noX (mt w ℓ h)) fun ℓ h => mb ℓ h) r.2 r.1 ℓ h) := by
  refine PS.imp (ps_for S.ps S.g.calm hi hg hb (hs := fold_ok hs)) fun D σ H ⟨ι, hh, ℓ, r, lr, p⟩ => ?_
  refine ⟨ι, hh, ℓ, r, lr, (PostS.lift p lr).imp fun rr h1 ι1 H1 s1 r1 p1 J wk => ?_⟩
  obtain ⟨ws, gs⟩ := rr
  refine ⟨fun i m σ2 H2 => ∃ ι2 h2 ℓ2, Step ι1 H1 ι2 H2 ∧ Rel G h2 ι2 H2 ∧ LR G H2 ι2 ℓ2 σ2 ∧ i ≤ ws.length ∧ m = ws.length - i ∧ PostS G Wx ι2 H2 (forL (fun w ℓ h => liftE ℓ (noX (mt w ℓ h)) fun ℓ h => mb ℓ h) gs (ws.drop i) ℓ2 h2) (DK G D),
    ⟨ws.length, ι1, h1, ℓ, .refl, r1, lr.mono s1, Nat.zero_le _, by simp, p1⟩, ?_⟩
  rintro i m σ2 H2 ⟨ι2, h2, ℓ2, s2, r2, lr2, hi', rfl, p2⟩
  by_cases hlt : i < ws.length
  · have hw : ws[i]? = some ws[i] := by simp [hlt]
    rw [List.drop_eq_getElem_cons hlt] at p2
    unfold forL at p2
    obtain ⟨cg, p2⟩ := p2.chk
    refine .inr ⟨wk.goes i _ h2 ι2 H2 s2 r2 cg hw, fun σ3 H3 => ∃ m', m' < ws.length - i ∧ ∃ ι2 h2 ℓ2, Step ι1 H1 ι2 H3 ∧ Rel G h2 ι2 H3 ∧ LR G H3 ι2 ℓ2 σ3 ∧ i + 1 ≤ ws.length ∧ m' = ws.length - (i + 1) ∧ PostS G Wx ι2 H3 (forL (fun w ℓ h => liftE ℓ (noX (mt w ℓ h)) fun ℓ h => mb ℓ h) gs (ws.drop (i + 1)) ℓ2 h2) (DK G D), fun _ _ z => z, fun x H3 y => ?_⟩
    obtain ⟨s3, r3, hx⟩ := wk.yields i _ h2 ι2 H2 x H3 s2 r2 cg hw y
    have p3 := turn_ends (N := fun σ3 H3 => ∃ m', m' < ws.length - i ∧ ∃ ι2 h2 ℓ2, Step ι1 H1 ι2 H3 ∧ Rel G h2 ι2 H3 ∧ LR G H3 ι2 ℓ2 σ3 ∧ i + 1 ≤ ws.length ∧ m' = ws.length - (i + 1) ∧ PostS G Wx ι2 H3 (forL (fun w ℓ h => liftE ℓ (noX (mt w ℓ h)) fun ℓ h => mb ℓ h) gs (ws.drop (i + 1)) ℓ2 h2) (DK G D)) (p2.later s3)
      fun ℓ4 h4 ι4 H4 σ4 s4 r4 lr4 p4 => ⟨ws.length - (i + 1), by omega, ι4, h4, ℓ4, (s2.trans s3).trans s4, r4, lr4, by omega, rfl, p4⟩
    refine ⟨ι2, h2, ℓ2, ws[i], r3, lr2.mono s3, hx, (Post.noX (p3.lift (lr2.mono s3))).imp fun ℓ4 h4 ι4 H4 s4 r4 p4 σ4 lr4 _ => ?_⟩
    exact ⟨ι4, h4, ℓ4, r4, lr4, p4⟩
  · have e : i = ws.length := by omega
    subst e
    rw [List.drop_length] at p2
    unfold forL at p2
    obtain ⟨cg, p2⟩ := p2.chk
    exact .inl ⟨wk.stops h2 ι2 H2 s2 r2 cg, p2.ok r2 lr2⟩
theorem s_while {mc : Lo → List O → R Bool} {mb : Lo → List O → RS} {fuel : Nat} (S : Sx G lvl c X Wx) (hc : PT X e (tT G Wx mc)) (hb : PSs X sts (tSt G Wx mb)) :
    PS X (.While e sts [] pos) (tSt G Wx fun ℓ h => whileL mc mb fuel ℓ h) := by
  refine PS.imp (ps_while S.ps hc hb) fun D σ H ⟨ι, hh, ℓ, r, lr, p⟩ => ?_
  refine ⟨fun m σ2 H2 => ∃ ι2 h2 ℓ2, Rel G h2 ι2 H2 ∧ LR G H2 ι2 ℓ2 σ2 ∧ PostS G Wx ι2 H2 (whileL mc mb m ℓ2 h2) (DK G D), ⟨fuel, ι, hh, ℓ, r, lr, p⟩, ?_⟩
  rintro m σ2 H2 ⟨ι2, h2, ℓ2, r2, lr2, p2⟩
  cases m with
  | zero => exact False.elim p2
  | succ m =>
    unfold whileL at p2
    refine ⟨ι2, h2, ℓ2, r2, lr2, (p2.lift lr2).imp fun k h3 ι3 H3 s3 r3 p3 => ?_⟩
    cases k with
    | true =>
      refine iteT ⟨fun σ4 H4 => ∃ m', m' < m + 1 ∧ ∃ ι2 h2 ℓ2, Rel G h2 ι2 H4 ∧ LR G H4 ι2 ℓ2 σ4 ∧ PostS G Wx ι2 H4 (whileL mc mb m' ℓ2 h2) (DK G D), fun _ _ z => z, ι3, h3, ℓ2, r3, lr2.mono s3, ?_⟩
      exact turn_ends (show PostS G Wx ι3 H3 (turnS (mb ℓ2 h3) (whileL mc mb m)) (DK G D) from p3) fun ℓ4 h4 ι4 H4 σ4 s4 r4 lr4 p4 => ⟨m, Nat.lt_succ_self _, ι4, h4, ℓ4, r4, lr4, p4⟩
    | false => exact iteF ((show PostS G Wx ι3 H3 (.ok .nx ℓ2 h3) (DK G D) from p3).ok r3 (lr2.mono s3))
theorem s_par {i j : Nat} {x y : Str} {px py pt pt2 : Pos} {kt k2 : Nat} {ma mb : Lo → List O → R W} (g : Gx G lvl c X) (hi : c.N[i]? = some x) (hj : c.N[j]? = some y) (hij : i ≠ j) (hx : c.names.lookup x = some .local) (hy : c.names.lookup y = some .local)
    (ha : PE X a (tV G Wx ma)) (hb : PE X b (tV G Wx mb)) (hst : ([a, b] : List Expr).all notStar = true) (hw : ∀ env : Env, env.scope.kind = .function → env.scope.names = c.names → swappedStores [.Tuple [.Name x px, .Name y py] kt pt] (.Tuple [a, b] k2 pt2) env = pure (some [x, y])) :
    PS X (.Assign [.Tuple [.Name x px, .Name y py] kt pt] (.Tuple [a, b] k2 pt2) pos) (tSt G Wx fun ℓ h => liftE ℓ (ma ℓ h) fun x h => liftE ℓ (mb ℓ h) fun y h => .ok .nx ((ℓ.set i (some x)).set j (some y)) h) := by
  rw [List.all_cons, List.all_cons, Bool.and_eq_true, Bool.and_eq_true] at hst
  refine PS.imp (ps_par g.calm (by rw [g.N]; exact g.nd) (by rw [g.N]; exact hi) (by rw [g.N]; exact hj) hij (by rw [g.nm]; exact hx) (by rw [g.nm]; exact hy) (pa_cons ha (pa_cons hb pa_nil (star_ok hst.2.1)) (star_ok hst.1)) (hw X.env g.kd g.nm) (hs := by rfl)) fun D σ H ⟨ι, hh, ℓ, r, lr, p⟩ => ?_
  refine ⟨ι, hh, ℓ, r, lr, (PostS.lift p lr).imp fun w h1 ι1 H1 s1 r1 p1 v hv => ?_⟩
  refine ⟨ι1, h1, ℓ, r1, lr.mono s1, (p1.lift (lr.mono s1)).imp fun w2 h2 ι2 H2 s2 r2 p2 u hu => ?_⟩
  exact ⟨v, u, rfl, p2.ok r2 ((((lr.mono s1).mono s2).set (hv.mono s2)).set hu)⟩
theorem s_setLc {i : Nat} {y : Str} {py : Pos} {elt iter : Expr} {ifs : List Expr} {scope : Scope} {own : List (Str × Nat)} {T : List Nat} {mi : Lo → List O → R (List W × Gd)} {mt : Tg} {mf : Lo → List O → R Bool} {me : Lo → List O → R W} (g : Gx G lvl c X)
    (hy : c.N[i]? = some y) (hyl : c.names.lookup y = some .local) (hl : (py.line == p.line) = true) (hno : (scope.names.any fun (n, k) => n == y && (k == .local || k == .cell)) = false)
    (hi : PI X tg iter (tI G Wx mi)) (ok : BlkOk X.N X.env.scope scope own) (hT : ∀ i ∈ T, i ∈ own.map (·.2))
    (hg : ∀ (s : Shared) (H : Hp) (A0 : Addr) (cl : List (Str × Addr)) (fp : List Addr), PG (X.blk s H scope (compEnvC scope cl A0 X.env) fp) tg (tG G T mt))
    (ht : ∀ (s : Shared) (H : Hp) (A0 : Addr) (cl : List (Str × Addr)) (fp : List Addr), PTs (X.blk s H scope (compEnvC scope cl A0 X.env) fp) ifs (tT G WF mf))
    (he : ∀ (s : Shared) (H : Hp) (A0 : Addr) (cl : List (Str × Addr)) (fp : List Addr), PE (X.blk s H scope (compEnvC scope cl A0 X.env) fp) elt (tV G WF me)) (hs : notSet iter = true) :
    PS X (.Assign [.Name y py] (.ListComp elt [⟨tg, iter, ifs, 0⟩] scope p) pos) (tSt G Wx fun ℓ h => liftE ℓ (((mi ℓ h).bind fun r h => lcLoop (lcF mt mf me (wipeL ℓ (own.map (·.2)))) r.2 0 r.1 h).bind fun ws h => alloc (.lst ws) h) fun w h => liftE ℓ (noX (.ok (ℓ.set i (some w)) h)) fun ℓ h => .ok .nx ℓ h) := by
  refine PS.imp (ps_setLc (i := i) g.calm (by rw [g.N]; exact g.nd) (by rw [g.N]; exact hy) (by rw [g.nm]; exact hyl) (sw_true g.kd (by rw [g.nm]; exact hyl) hl hno) hi ok hg ht he (hs := fold_ok hs)) fun D σ H ⟨ι, hh, ℓ, r, lr, p⟩ => ?_
  refine e_lcomp g hi ok hT hg ht he σ H _ (tL_of ⟨ι, hh, ℓ, r, lr, (PostS.lift p lr).imp fun w h1 ι1 H1 s1 r1 p1 v hv => ?_⟩)
  exact (show PostS G Wx ι1 H1 (.ok .nx (ℓ.set i (some w)) h1) (DK G D) from p1).ok r1 ((lr.mono s1).set hv)
/-- behind a statement a new list may be locked -/
def LkN (P : Hp → Prop) (H : Hp) : Prop := P H ∨ ∃ a u, H a = some u ∧ Mut (some u) ∧ ∀ od, P (upd H a (.frz od u))
theorem PS.lockN {t : TS} (h : PS X st t) : PS X st (fun D σ H => t { nx := fun σ' H' => LkN (D.nx σ') H', rt := D.rt, bk := D.bk, ct := D.ct } σ H) := ⟨fun pins s σ H D I q => wpAny_mono (h.run pins s σ H _ I q) (fun f s1 hs => by
  cases f with
  | next =>
    obtain ⟨σ', H', J, q⟩ := hs
    rcases q with q | ⟨a, u, e, mu, q⟩
    · exact ⟨σ', H', J, q⟩
    · obtain ⟨od, J2⟩ := J.lock e mu
      exact ⟨σ', _, J2, q od⟩
  | _ => exact hs) fun _ _ z => z⟩
theorem s_setLcF {i : Nat} {y : Str} {py : Pos} {elt iter : Expr} {ifs : List Expr} {scope : Scope} {own : List (Str × Nat)} {T : List Nat} {mi : Lo → List O → R (List W × Gd)} {mt : Tg} {mf : Lo → List O → R Bool} {me : Lo → List O → R W} (g : Gx G lvl c X)
    (hy : c.N[i]? = some y) (hyl : c.names.lookup y = some .local) (hl : (py.line == p.line) = true) (hno : (scope.names.any fun (n, k) => n == y && (k == .local || k == .cell)) = false)
    (hi : PI X tg iter (tI G Wx mi)) (ok : BlkOk X.N X.env.scope scope own) (hT : ∀ i ∈ T, i ∈ own.map (·.2))
    (hg : ∀ (s : Shared) (H : Hp) (A0 : Addr) (cl : List (Str × Addr)) (fp : List Addr), PG (X.blk s H scope (compEnvC scope cl A0 X.env) fp) tg (tG G T mt))
    (ht : ∀ (s : Shared) (H : Hp) (A0 : Addr) (cl : List (Str × Addr)) (fp : List Addr), PTs (X.blk s H scope (compEnvC scope cl A0 X.env) fp) ifs (tT G WF mf))
    (he : ∀ (s : Shared) (H : Hp) (A0 : Addr) (cl : List (Str × Addr)) (fp : List Addr), PE (X.blk s H scope (compEnvC scope cl A0 X.env) fp) elt (tV G WF me)) (hs : notSet iter = true) :
    PS X (.Assign [.Name y py] (.ListComp elt [⟨tg, iter, ifs, 0⟩] scope p) pos) (tSt G Wx fun ℓ h => liftE ℓ (((mi ℓ h).bind fun r h => lcLoop (lcF mt mf me (wipeL ℓ (own.map (·.2)))) r.2 0 r.1 h).bind fun ws h => .ok (.slst ws) h) fun w h => liftE ℓ (noX (.ok (ℓ.set i (some w)) h)) fun ℓ h => .ok .nx ℓ h) := by
  refine PS.imp (PS.lockN (ps_setLc (i := i) g.calm (by rw [g.N]; exact g.nd) (by rw [g.N]; exact hy) (by rw [g.nm]; exact hyl) (sw_true g.kd (by rw [g.nm]; exact hyl) hl hno) hi ok hg ht he (hs := fold_ok hs))) fun D σ H ⟨ι, hh, ℓ, r, lr, p⟩ => ?_
  refine e_lcomp g hi ok hT hg ht he σ H _ ⟨ι, hh, ℓ, r, lr, (PostS.lift p lr).bind0.imp fun ws h1 ι1 H1 s1 r1 p1 Da vs hD nD eD hr => ?_⟩
  refine .inr ⟨Da, _, eD, trivial, fun od => ?_⟩
  obtain ⟨s2, m2⟩ := s1.apart (o := .frz od (.lst vs)) hD eD (fun z => z)
  have r2 := r1.mon m2 fun a ha => upd_ne fun z => nD (by rw [← z]; exact ha)
  have q := p1 ι1 _ s2 r2
  exact (show PostS G Wx ι1 _ (.ok .nx (ℓ.set i (some (.slst ws))) h1) (DK G D) from q).ok r2 ((lr.mono s2).set (.slst (.inl ⟨od, upd_same⟩) (hr.mon m2)))
theorem FR.putF {ι : List Addr} {H : Hp} {f : Str} {w : W} {v : V} (hv : VR G H ι w v) : ∀ {fs : List (Str × W)} {vs : List (Str × V)}, FR G H ι fs vs → FR G H ι (putFW f w fs) (L2.putF f v vs)
  | _, _, .nil => .cons hv .nil
  | (y, w') :: fs, (_, v') :: vs, .cons r t => by
    unfold putFW L2.putF
    by_cases z : y = f
    · rw [if_pos z, if_pos z]; exact .cons hv t
    · rw [if_neg z, if_neg z]; exact .cons r (FR.putF hv t)
theorem s_sat {f : Str} {pos' : Pos} {mo mv : Lo → List O → R W} (F : Fc G C.cn lvl c.fs) (g : Gx G lvl c X) (ho : PE X a (tV G Wx mo)) (hv : PE X e (tV G Wx mv)) :
    PS X (.Assign [.Attribute a f pos'] e pos) (tSt G Wx fun ℓ h => liftE ℓ (mv ℓ h) fun w h => liftE ℓ (mo ℓ h) fun x h => liftE ℓ (satW C.cn x f w h) fun _ h => .ok .nx ℓ h) := by
  refine PS.imp (ps_fld ho hv (sw_okT rfl)) fun D σ H ⟨ι, hh, ℓ, r, lr, p⟩ => ?_
  refine ⟨ι, hh, ℓ, r, lr, (PostS.lift p lr).imp fun w h1 ι1 H1 s1 r1 p1 v hw => ?_⟩
  refine ⟨ι1, h1, ℓ, r1, lr.mono s1, (p1.lift (lr.mono s1)).imp fun x h2 ι2 H2 s2 r2 p2 u hu => ?_⟩
  have lr2 := (lr.mono s1).mono s2
  unfold satW at p2
  split at p2
  · rename_i n
    split at p2
    · rename_i cn fs en
      cases hu with
      | ref ha =>
        obtain ⟨Ca, dx, vs, h0, e1, fr⟩ := r2.obj _ _ _ en ha
        have p3 := p2.lift lr2
        obtain ⟨c1, p3⟩ := p3.chk
        simp only [Bool.and_eq_true, decide_eq_true_eq] at c1
        obtain ⟨k1, k2⟩ := F.att cn f c1.1 Ca h0
        have st : Step ι2 H2 ι2 (upd H2 _ (.ins Ca dx (L2.putF f v vs))) := Step.set (List.mem_of_getElem? ha) e1 (fun z => z)
        obtain ⟨r3, s3⟩ := r2.set (o' := .ins cn (putFW f w fs)) (u' := .ins Ca dx (L2.putF f v vs)) en ha e1 (fun z => z) ⟨Ca, dx, _, h0, upd_same, FR.putF ((hw.mono s2).mono st) (fr.mono st)⟩
        refine ⟨_, Ca, dx, vs, rfl, e1, by rw [g.K]; exact k1, by rw [g.K]; exact k2, by rw [← fr.length]; exact c1.2, ?_⟩
        have p4 := p3 ι2 _ s3 r3
        exact (show PostS G Wx ι2 _ (.ok .nx ℓ (h2.set n (.ins cn (putFW f w fs)))) (DK G D) from p4).ok r3 (lr2.mono s3)
    · exact False.elim p2
  · exact False.elim p2
theorem s_par3 {i j l : Nat} {x y z : Str} {px py pz pt pt2 : Pos} {kt k2 : Nat} {ma mb md : Lo → List O → R W} (g : Gx G lvl c X) (hi : c.N[i]? = some x) (hj : c.N[j]? = some y) (hk : c.N[l]? = some z) (hij : i ≠ j) (hil : i ≠ l) (hjl : j ≠ l) (hx : c.names.lookup x = some .local) (hy : c.names.lookup y = some .local) (hz : c.names.lookup z = some .local)
    (ha : PE X a (tV G Wx ma)) (hb : PE X b (tV G Wx mb)) (hd : PE X d (tV G Wx md)) (hst : ([a, b, d] : List Expr).all notStar = true) (hw : ∀ env : Env, env.scope.kind = .function → env.scope.names = c.names → swappedStores [.Tuple [.Name x px, .Name y py, .Name z pz] kt pt] (.Tuple [a, b, d] k2 pt2) env = pure (some [x, y, z])) :
    PS X (.Assign [.Tuple [.Name x px, .Name y py, .Name z pz] kt pt] (.Tuple [a, b, d] k2 pt2) pos) (tSt G Wx fun ℓ h => liftE ℓ (ma ℓ h) fun x h => liftE ℓ (mb ℓ h) fun y h => liftE ℓ (md ℓ h) fun z h => .ok .nx (((ℓ.set i (some x)).set j (some y)).set l (some z)) h) := by
  rw [List.all_cons, List.all_cons, List.all_cons, Bool.and_eq_true, Bool.and_eq_true, Bool.and_eq_true] at hst
  refine PS.imp (ps_par3 g.calm (by rw [g.N]; exact g.nd) (by rw [g.N]; exact hi) (by rw [g.N]; exact hj) (by rw [g.N]; exact hk) hij hil hjl (by rw [g.nm]; exact hx) (by rw [g.nm]; exact hy) (by rw [g.nm]; exact hz) (pa_cons ha (pa_cons hb (pa_cons hd pa_nil (star_ok hst.2.2.1)) (star_ok hst.2.1)) (star_ok hst.1)) (hw X.env g.kd g.nm) (hs := by rfl)) fun D σ H ⟨ι, hh, ℓ, r, lr, p⟩ => ?_
  refine ⟨ι, hh, ℓ, r, lr, (PostS.lift p lr).imp fun w h1 ι1 H1 s1 r1 p1 v hv => ?_⟩
  refine ⟨ι1, h1, ℓ, r1, lr.mono s1, (p1.lift (lr.mono s1)).imp fun w2 h2 ι2 H2 s2 r2 p2 u hu => ?_⟩
  have lr2 := (lr.mono s1).mono s2
  refine ⟨ι2, h2, ℓ, r2, lr2, (p2.lift lr2).imp fun w3 h3 ι3 H3 s3 r3 p3 t ht => ?_⟩
  exact ⟨v, u, t, rfl, (show PostS G Wx ι3 H3 (.ok .nx (((ℓ.set i (some w)).set j (some w2)).set l (some w3)) h3) (DK G D) from p3).ok r3 ((((lr2.mono s3).set ((hv.mono s2).mono s3)).set (hu.mono s3)).set ht)⟩
end
end MP
set_option maxRecDepth 100000
set_option maxHeartbeats 4000000
namespace MP
open PySem PySem.Spec PyProof.Rows L2

/-! ### exceptions of the text's own: made, raised, caught -/
section
variable {prog : Program} {w : World} {A : Around} {E : Value → Shared → Prop}
/-- o.m(e, ..) where o.m is read by getMethod -/
theorem call_att {s : Shared} {o : Expr} {m : Str} {ap cp : Pos} {as : List Expr} {env : Env} {Q : Value → Shared → Prop} (hb : attributeBase o m env (eval o env) = eval o env)
    (hfew : ((backTo cp (starEach as env)).all (fun x => !x.1) && (backToKw cp (keywordEach [] env)).all (fun x => x.1.isSome) && decide (as.length + ([] : List Keyword).length + (if ([] : List Keyword).isEmpty then 0 else 1) < 30)) = true)
    (hl : (ap.endLine == cp.line) = true)
    (h : wpAny (model prog w) A (eval o env) (fun ov s1 => ∀ pl, wpAny (model prog w) A (getMethod ov m pl) (fun fx s2 => wpAny (model prog w) A (callWith cp fx.1 fx.2 (backTo cp (starEach as env)) (backToKw cp (keywordEach [] env))) Q E s2) E s1) E s) :
    wpAny (model prog w) A (eval (.Call (.Attribute o m ap) as [] cp) env) Q E s := by
  rw [arm_eval_Call, hb]
  refine wpAny_bind (wpAny_mono h (fun ov s1 hh => ?_) fun _ _ e => e)
  refine wpAny_bind (wpAny_standAt ?_)
  have e1 : methodCallForm (as.length + ([] : List Keyword).length) (backTo cp (starEach as env)) (backToKw cp (keywordEach [] env)) = true := hfew
  have e2 : methodCallPos true o env ap cp = pure cp := by unfold methodCallPos; simp [hl]
  unfold methodCall
  rw [e1]
  refine wpAny_bind (wpAny_holding (wpAny_mono (hh _) (fun fx s2 hc => ?_) fun _ _ z => z))
  exact wpAny_bind (wpAny_of_eq e2 hc)
end
/-- a base of the text's own over ValueError, whose __init__ is ValueError's -/
structure BsC (K : PySem.W.Frag) (B : Addr) : Prop where
  rd : PySem.W.readsIn K B (.type "type") = true
  ga : PySem.W.specialIn K (.ref B) "__getattribute__" = some (some (.builtin "type.__getattribute__"))
  ini : PySem.W.findCls K (.ref B) (.type "type") "__init__" = some (.val (.builtin "ValueError.__init__"))
section
variable {X : Cx} {e : Expr} {es : List Expr} {ta : TA} {b : Str} {B : Addr} {p1 p2 pos : Pos}
theorem pe_binit (T : BsC X.K B) (hg : Gl X b) (hd : (b == ("__debug__" : Str)) = false) (hm : X.mg b = some (.ref B)) (ha : PA X (e :: es) ta) (hl : (p2.endLine == pos.line) = true)
    (he : starEach (e :: es) X.env = (false, eval e X.env) :: starEach es X.env) (hst : (e :: es).all notStar = true) (hlen : es.length < 20) :
    PE X (.Call (.Attribute (.Name b p1) "__init__" p2) (e :: es) [] pos) (tVeI X.K ta) := by
  refine ⟨fun pins s σ H Q I h => ?_⟩
  have hpl : (backTo pos (starEach es X.env)).any (·.1) = false := stars_ok (by rw [List.all_cons, Bool.and_eq_true] at hst; exact hst.2)
  refine call_att (sup_ok rfl) ?_ hl (ld_glob I hg hm ?_ hd)
  · rw [stars_all hst]
    have : (e :: es).length + 0 + (if ([] : List Keyword).isEmpty then 0 else 1) < 30 := by simp; omega
    show (true && true && decide ((e :: es).length + 0 + (if ([] : List Keyword).isEmpty then 0 else 1) < 30)) = true
    rw [decide_eq_true this]
    rfl
  · intro pl
    refine PySem.W.method_cls I.kIn T.ga (PySem.W.cls_value I.kIn T.rd T.ini (by decide +kernel) ?_)
    refine PyProof.Rows.callWith_method1 (thn (ha.run pos pins _ σ H _ (I.tok _) h) fun us s1 hh => ?_) he hpl
    obtain ⟨vs, H1, I1, r1, a, C, ws, rfl, hw, O, ea, q⟩ := hh
    cases r1 with
    | @cons _ u0 _ ur ra rw' =>
      obtain rfl : u0 = Value.ref a := ra
      refine oinit_ok O I1 ea ?_ fun s' J => ⟨.non, H1, J, rfl, q⟩
      rw [← Paired.length rw', sizeLine_eq]
      omega
end

/-! ### __init__ of an exception: the base's, then the field -/
def spInit (K : PySem.W.Frag) (f : Str) : Sp := fun vs H Q _ => ∃ a C v, vs = [.ref a, v] ∧ OexC K C ∧ PySem.W.findIn K (.ref C) f = some none ∧ H a = some (exo a C none) ∧
  ∀ dx, H dx = none → dx ≠ a → Q .non (upd (upd H dx (exd dx [(f, v)])) a (exo a C (some dx)))
def initB (st : Stmt) (b pv f : Str) : Bool := match defBody st with
  | [.Expr (.Call (.Attribute (.Name x _) m p2) [.Name y _, .Constant (.str _) _ _] [] pos) _, .Assign [.Attribute (.Name z _) g _] (.Name v _) _] =>
    decide (x = b) && decide (m = ("__init__" : Str)) && (p2.endLine == pos.line) && decide (y = ("self" : Str)) && decide (z = ("self" : Str)) && decide (g = f) && decide (v = pv) && C8.scC ["self", pv] ["self", pv] (defScope st) &&
      decide ((defScope st).names.lookup b = some .globalImplicit) && !(pv == ("__debug__" : Str)) && !(pv == ("__classdict__" : Str)) && !(b == ("__debug__" : Str))
  | _ => false
theorem vis_of {N P : List Str} {sc : Scope} (S : FnScope N P sc) {x : Str} (h : x ∈ P) : Vis sc x := by
  rcases S.par x h with h | h
  · exact .inl h
  · exact .inr (.inl h)
theorem init_fn {P : Program} {w : World} {K : PySem.W.Frag} {mg : Str → Option Value} {base : Heap} {st : Stmt} {q b pv f : Str} {fI B : Addr} {fd : FuncData} (F : Fun K "__init__" q st fI fd) (hc : initB st b pv f = true) (hm : mg b = some (.ref B)) (T : BsC K B) :
    FnOk P w K mg base (CX P w) 1 fI fd ["self", pv] (spInit K f) := by
  unfold initB at hc
  split at hc
  · rename_i x p1 m p2 y p3 msg kd p4 pos p5 z p6 g p7 v p8 p9 hbody
    simp only [Bool.and_eq_true, decide_eq_true_eq, Bool.not_eq_true'] at hc
    obtain ⟨⟨⟨⟨⟨⟨⟨⟨⟨⟨⟨rfl, rfl⟩, hl⟩, rfl⟩, rfl⟩, rfl⟩, rfl⟩, hS⟩, hg⟩, d1⟩, d2⟩, d3⟩ := hc
    have S := C8.fnScope_by hS
    obtain ⟨oc, od, kV, doc, pm, an, cdv, ct, osl, rfl, lk, hcd⟩ := F.ex
    refine fn_of lk hcd S (fun vs H Q E h => ?_) fun A outer s H vs Q E room h => ?_
    · obtain ⟨a, C, v, rfl, _⟩ := h
      rfl
    · rw [hbody]
      have n0 : ∀ {X : Cx} {p : Pos}, X.N = (["self", v] : List Str) → X.env.scope = defScope st → PE X (.Name "self" p) (tVar 0) := fun e1 e2 =>
        pe_var (by rw [e1]; rfl) (by rw [e2]; exact vis_of S List.mem_cons_self) (by decide) (by decide)
      have n1 : ∀ {X : Cx} {p : Pos}, X.N = (["self", v] : List Str) → X.env.scope = defScope st → PE X (.Name v p) (tVar 1) := fun e1 e2 =>
        pe_var (by rw [e1]; rfl) (by rw [e2]; exact vis_of S (List.mem_cons_of_mem _ List.mem_cons_self)) d1 d2
      refine ⟨_, pss_cons (ps_expr (pe_binit (B := B) T (show Gl _ x from hg) d3 hm (pa_cons (n0 rfl rfl) (pa_cons pe_str pa_nil (by rfl)) (by rfl)) hl (by rfl) (by rfl) (by simp))) (pss_one (ps_ost (n0 rfl rfl) (n1 rfl rfl))), ?_⟩
      obtain ⟨a, C, v', rfl, O, hno, ea, q⟩ := h
      exact ⟨.ref a, rfl, a, C, _, rfl, by simp, O, ea, v', rfl, .ref a, rfl, a, C, rfl, O, hno, .inl ⟨ea, q⟩⟩
  · exact absurd hc Bool.false_ne_true
/-- what raising and catching lean on -/
structure ExC (G : Pg) (x f : Str) (C fI : Addr) (fd : FuncData) (pv : Str) : Prop where
  cls : G.cls x = some C
  mg : G.mg x = some (.ref C)
  ox : OexC G.K C
  ini : PySem.W.findIn G.K (.ref C) "__init__" = some (some (.ref fI))
  tyI : PySem.W.typeIn G.K (.ref fI) = some (.type "function")
  fn : FnOk G.P G.w G.K G.mg G.base (L2.CX G.P G.w) 1 fI fd ["self", pv] (spInit G.K f)
  bd : Binds G.K fd ["self", pv] []
  no : PySem.W.findIn G.K (.ref C) f = some none
  xf : XfC G.K C
structure Ec (G : Pg) (C : Cc) (lvl : Nat) (exs : List (Str × Str)) (cls : List Str) : Prop where
  lev : 2 ≤ lvl
  same : C.exs = exs
  made : ∀ x f, (x, f) ∈ exs → ∃ Ca fI fd pv, ExC G x f Ca fI fd pv
  isa : ∀ y ∈ cls, ∃ Cy, G.mg y = some (.ref Cy) ∧ ∀ x b Cx, C.isA x y = some b → G.cls x = some Cx → PySem.W.exmOne G.K (.ref Cx) (.ref Cy) = some b
section
variable {G : Pg} {lvl : Nat} {c : Ctx} {X : Cx} {Wx : WX} {C : Cc} {e : Expr} {p pos : Pos} {x f pv : Str} {Ca fI : Addr} {fd : FuncData}
theorem back_eq {H : Hp} {a d Cx : Addr} {f : Str} {v : V} (ha : H a = none) (hd : d ≠ a) :
    upd (del (upd (upd (upd H a (exo a Cx none)) d (exd d [(f, v)])) a (exo a Cx (some d))) a) d (.xd [(f, v)]) = upd H d (.xd [(f, v)]) := by
  funext b
  by_cases h1 : b = d
  · rw [h1, upd_same, upd_same]
  · rw [upd_ne h1, upd_ne h1]
    by_cases h2 : b = a
    · rw [h2, del_same, ha]
    · rw [del_ne h2, upd_ne h2, upd_ne h1, upd_ne h2]
theorem s_raise {p3 : Pos} {mv : Lo → List O → R W} (S : Sx G lvl c X Wx) (E : Ec G C lvl c.exs c.cls) (hx : (x, f) ∈ c.exs) (hg : glB c x = true) (hd : debB x = true) (he : PE X e (tV G Wx mv)) (hs : notStar e = true) :
    PS X (.Raise (some (.Call (.Name x p) [e] [] pos)) none p3) (tSt G Wx fun ℓ h => liftE ℓ (mv ℓ h) fun w h => .exc ⟨x, [(f, w)]⟩ ℓ h) := by
    obtain ⟨Ca, fI, fd, pv, T⟩ := E.made x f hx
    have hl := E.lev
    have g := S.g
    have fn := T.fn
    rw [← g.prog, ← g.w, ← g.K, ← g.mg, ← g.base] at fn
    have z := pmk_oex (p := p) (pos := pos) (by rw [g.K]; exact T.ox) (by rw [g.K]; exact T.ini) (by rw [g.K]; exact T.tyI) fn (g.room.mono hl) (by rw [g.K]; exact T.bd) .nil (passes_call S.tk fun _ _ _ _ h => h.elim) (g.gl hg) (by rw [g.mg]; exact T.mg)
      (pa_cons he pa_nil (star_ok hs)) (deb_of hd) (star_ok hs) (by rfl)
    refine PS.imp (ps_raise g.calm S.tk z) fun D σ H ⟨ι, hh, ℓ, r, lr, p⟩ => ?_
    refine ⟨ι, hh, ℓ, r, lr, (PostS.lift p lr).imp fun w h1 ι1 H1 s1 r1 p1 v hv => ⟨by simp, fun a ha => ⟨a, Ca, v, rfl, by rw [g.K]; exact T.ox, by rw [g.K]; exact T.no, upd_same, fun dx hdx hne => ⟨rfl, dx, [(f, v)], upd_same, ?_, ?_, ?_⟩⟩⟩⟩
    · rw [upd_ne hne, upd_same]
    · rw [upd_ne hne] at hdx; exact hdx
    · rw [upd_ne hne] at hdx
      rw [back_eq ha hne]
      have st : Step ι1 H1 ι1 (upd H1 dx (.xd [(f, v)])) := Step.new hdx
      exact p1 ι1 _ σ _ _ st (r1.new hdx) ((lr.mono s1).mono st) ⟨Ca, T.cls, rfl, .inr ⟨dx, _, rfl, upd_same, .cons (hv.mono st) .nil, r1.fresh hdx⟩⟩
/-! ### except clauses that hand back a list -/
/-- the clause's own list against its items -/
def hxB (c : Ctx) (n : Str) : List Hx → List Expr → Bool
  | [], [] => true
  | .lit s :: r, .Constant (.str t) _ _ :: es => decide (s = t) && hxB c n r es
  | .fld f :: r, .Attribute (.Name m _) g _ :: es => decide (m = n) && decide (f = g) && hxB c n r es
  | _, _ => false
def hxV (vs : List (Str × V)) : List Hx → Option (List V)
  | [] => some []
  | .lit s :: r => (hxV vs r).map (.str s :: ·)
  | .fld f :: r => (vs.lookup f).bind fun v => (hxV vs r).map (v :: ·)
theorem hx_vals {ι : List Addr} {H : Hp} {x : Exn} {vs : List (Str × V)} (r : FR G H ι x.fs vs) : ∀ {items : List Hx} {ws : List W}, hxW C x items = some ws → (∀ f, .fld f ∈ items → (x.cls, f) ∈ C.exs) ∧ ∃ us, hxV vs items = some us ∧ VRs G H ι ws us
  | [], ws, e => by cases e; exact ⟨fun _ h => (nomatch h), [], rfl, .nil⟩
  | .lit s :: items, ws, e => by
    rw [hxW, Option.map_eq_some_iff] at e
    obtain ⟨ws', e1, rfl⟩ := e
    obtain ⟨h1, us, h2, h3⟩ := hx_vals r e1
    refine ⟨fun f hf => ?_, .str s :: us, by rw [hxV, h2]; rfl, .cons (.str s) h3⟩
    rcases List.mem_cons.mp hf with hf | hf
    · cases hf
    · exact h1 f hf
  | .fld f :: items, ws, e => by
    rw [hxW] at e
    split at e
    · rename_i hin
      rw [Option.bind_eq_some_iff] at e
      obtain ⟨w, e1, e⟩ := e
      rw [Option.map_eq_some_iff] at e
      obtain ⟨ws', e2, rfl⟩ := e
      obtain ⟨h1, us, h2, h3⟩ := hx_vals r e2
      obtain ⟨v, h4, h5⟩ := r.look e1
      refine ⟨fun g hg => ?_, v :: us, by rw [hxV, h4, h2]; rfl, .cons h5 h3⟩
      rcases List.mem_cons.mp hg with hg | hg
      · cases hg; exact hin
      · exact h1 g hg
    · cases e
/-- the items' values in the suite -/
def tHx (K : PySem.W.Frag) (i : Nat) (a : Addr) (cls : Value) (d : Option Addr) (items : List Hx) : TA := fun σ H Q => ∃ (Cx : Addr) (vs : List (Str × V)) (us : List V), (i < σ.length → σ[i]? = some (some (.ref a))) ∧ cls = .ref Cx ∧ (vs = [] ∨ ∃ dd, d = some dd ∧ H dd = some (.xd vs)) ∧
  (∀ f, .fld f ∈ items → XfC K Cx ∧ PySem.W.findIn K (.ref Cx) f = some none) ∧ hxV vs items = some us ∧ Q us H
theorem PA.pre {es : List Expr} {t : TA} {P : Prop} (h : P → PA X es t) : PA X es (fun σ H Q => P ∧ t σ H Q) := ⟨fun pos pins s σ H Q I ⟨hp, q⟩ => (h hp).run pos pins s σ H Q I q⟩
theorem pa_hx {n : Str} {i : Nat} {a : Addr} {oe : Obj} {cls : Value} {d : Option Addr} {pn : List (Addr × Obj)} (hN : X.N[i]? = some n) (hv : Vis X.env.scope n) (d1 : (n == ("__debug__" : Str)) = false) (d2 : (n == ("__classdict__" : Str)) = false) (hz : Zc cls d oe) (hf : ∃ vs, oe.data = .fields vs) :
    ∀ {items : List Hx} {es : List Expr}, hxB c n items es = true → PA (X.suite a ((a, oe) :: pn)) es (tHx X.K i a cls d items)
  | [], [], _ => PA.imp pa_nil fun σ H Q ⟨Cx, vs, us, _, _, _, _, h, q⟩ => by cases h; exact q
  | [], _ :: _, h => absurd h Bool.false_ne_true
  | .lit s :: items, es, h => by
    cases es with
    | nil => exact absurd h Bool.false_ne_true
    | cons e es =>
      cases e <;> first
        | exact absurd h Bool.false_ne_true
        | skip
      rename_i k j p
      cases k <;> first
        | exact absurd h Bool.false_ne_true
        | skip
      rename_i t
      have k : (decide (s = t) && hxB c n items es) = true := h
      clear h
      simp only [Bool.and_eq_true, decide_eq_true_eq] at k
      obtain ⟨rfl, h⟩ := k
      refine PA.imp (pa_cons pe_str (pa_hx hN hv d1 d2 hz hf h) (by rfl)) fun σ H Q ⟨Cx, vs, us, h1, h2, h3, h5, h6, q⟩ => ?_
      rw [hxV, Option.map_eq_some_iff] at h6
      obtain ⟨us', h6, rfl⟩ := h6
      exact ⟨Cx, vs, us', h1, h2, h3, fun f hf => h5 f (List.mem_cons_of_mem _ hf), h6, q⟩
  | .fld f :: items, es, h => by
    cases es with
    | nil => exact absurd h Bool.false_ne_true
    | cons e es =>
      cases e <;> first
        | exact absurd h Bool.false_ne_true
        | skip
      rename_i b g p
      cases b <;> first
        | exact absurd h Bool.false_ne_true
        | skip
      rename_i m p2
      have k : (decide (m = n) && decide (f = g) && hxB c n items es) = true := h
      clear h
      simp only [Bool.and_eq_true, decide_eq_true_eq] at k
      obtain ⟨⟨rfl, rfl⟩, h⟩ := k
      refine ⟨fun pos pins s σ H Q I ⟨Cx, vs, us, h1, h2, h3, h5, h6, q⟩ => ?_⟩
      obtain ⟨t1, t2⟩ := h5 f List.mem_cons_self
      rw [hxV, Option.bind_eq_some_iff] at h6
      obtain ⟨v, hv1, h6⟩ := h6
      rw [Option.map_eq_some_iff] at h6
      obtain ⟨us', h6, rfl⟩ := h6
      have hd : ∃ dd, d = some dd ∧ H dd = some (.xd vs) := by
        rcases h3 with h3 | h3
        · subst h3; cases hv1
        · exact h3
      obtain ⟨dd, h3', h4⟩ := hd
      have hi : i < σ.length := by
        rw [I.len]
        exact (List.getElem?_eq_some_iff.mp hN).1
      refine (pa_cons (pe_xf (X := X) (pos := p) t1 t2 hz hf (pe_var (X := X.suite a ((a, oe) :: pn)) (pos := p2) hN hv d1 d2)) (pa_hx (pn := pn) hN hv d1 d2 hz hf h) (by rfl)).run pos pins s σ H Q I ?_
      exact ⟨.ref a, h1 hi, rfl, h2, dd, vs, v, h3', h4, hv1, Cx, vs, us', h1, h2, h3, fun g hg => h5 g (List.mem_cons_of_mem _ hg), h6, q⟩
theorem hxV_len {vs : List (Str × V)} : ∀ {items : List Hx} {us : List V}, hxV vs items = some us → us.length = items.length
  | [], us, e => by cases e; rfl
  | .lit s :: items, us, e => by
    rw [hxV, Option.map_eq_some_iff] at e
    obtain ⟨us', h6, rfl⟩ := e
    rw [List.length_cons, List.length_cons, hxV_len h6]
  | .fld f :: items, us, e => by
    rw [hxV, Option.bind_eq_some_iff] at e
    obtain ⟨v, _, e⟩ := e
    rw [Option.map_eq_some_iff] at e
    obtain ⟨us', h6, rfl⟩ := e
    rw [List.length_cons, List.length_cons, hxV_len h6]
theorem hxB_len {n : Str} : ∀ {items : List Hx} {es : List Expr}, hxB c n items es = true → es.length = items.length
  | [], [], _ => rfl
  | [], _ :: _, h => absurd h Bool.false_ne_true
  | .lit s :: items, [], h => absurd h Bool.false_ne_true
  | .fld f :: items, [], h => absurd h Bool.false_ne_true
  | .lit s :: items, e :: es, h => by
    cases e <;> first
      | exact absurd h Bool.false_ne_true
      | skip
    rename_i k j p
    cases k <;> first
      | exact absurd h Bool.false_ne_true
      | skip
    rename_i t
    have k : (decide (s = t) && hxB c n items es) = true := h
    rw [Bool.and_eq_true] at k
    rw [List.length_cons, List.length_cons, hxB_len k.2]
  | .fld f :: items, e :: es, h => by
    cases e <;> first
      | exact absurd h Bool.false_ne_true
      | skip
    rename_i b g p
    cases b <;> first
      | exact absurd h Bool.false_ne_true
      | skip
    rename_i m p2
    have k : (decide (m = n) && decide (f = g) && hxB c n items es) = true := h
    rw [Bool.and_eq_true] at k
    rw [List.length_cons, List.length_cons, hxB_len k.2]
/-- what a suite that hands back its items does -/
def tSuite (K : PySem.W.Frag) (i : Nat) (items : List Hx) (a : Addr) (cls : Value) (d : Option Addr) : TS := fun D σ H => tHx K i a cls d items σ H fun us H1 => ∀ p od, H1 p = none → D.rt (.ref p) (upd H1 p (.frz od (.lst us)))
theorem pss_suite {es : List Expr} {n : Str} {i : Nat} {items : List Hx} {p1 p2 : Pos} (hN : X.N[i]? = some n) (hv : Vis X.env.scope n) (d1 : (n == ("__debug__" : Str)) = false) (d2 : (n == ("__classdict__" : Str)) = false) (hb : hxB c n items es = true) (hl : es.length ≤ sizeLine)
    (a : Addr) (oe : Obj) (cls : Value) (d : Option Addr) (pn : List (Addr × Obj)) (hz : Zc cls d oe) (hf : ∃ vs, oe.data = .fields vs) :
    PSs (X.suite a ((a, oe) :: pn)) [.Return (some (.List es p1)) p2] (tSuite X.K i items a cls d) := by
  refine PSs.imp (pss_one (ps_ret (PE.lock (pe_lst (pa_hx (pn := pn) hN hv d1 d2 hz hf hb))))) fun D σ H h => ?_
  obtain ⟨Cx, vs, us, h1, h2, h3, h4, h5, q⟩ := h
  refine ⟨Cx, vs, us, h1, h2, h3, h4, h5, ?_⟩
  refine ⟨by rw [hxV_len h5, ← hxB_len hb]; exact hl, fun p hp => .inr ⟨p, _, upd_same, trivial, fun od => ?_⟩⟩
  rw [upd_upd]
  exact q p od hp
/-! ### clauses that hand back a truth by repr -/
/-- a value that repr shows so -/
def ReprV (K : PySem.W.Frag) (H : Hp) (v : V) (s : Str) : Prop := ∃ d, DR K H v d ∧ SmT K H ∧ d.showable = true ∧ d.shown.length ≤ sizeLine ∧ d.depth ≤ 60 ∧ s = d.shown
theorem shD_of {ι : List Addr} {H : Hp} {h : List O} {w : W} {v : V} {s : Str} (r : Rel G h ι H) (hv : VR G H ι w v) (e : shD h w = some s) : ReprV G.K H v s := by
  unfold shD at e
  rw [Option.bind_eq_some_iff] at e
  obtain ⟨d, e1, e2⟩ := e
  split at e2
  · rename_i c
    cases e2
    rw [Bool.and_eq_true] at c
    have a1 := datO_small (h := h) (o := .inr w) e1
    exact ⟨d, dp_of r _ hv e1, r.sm, c.1, of_decide_eq_true c.2, by simp only [dDepth] at a1; omega, rfl⟩
  · cases e2
section
variable {a : Addr} {oe : Obj} {cls : Value} {d : Option Addr} {pn : List (Addr × Obj)} {n y : Str} {i j : Nat} {e1 : Expr}
/-- repr(n.f) == repr(y) in the suite -/
def tReq (K : PySem.W.Frag) (i j : Nat) (a : Addr) (cls : Value) (d : Option Addr) (f : Str) : L2.St → Hp → Bool → Prop := fun σ H k => ∃ (Cx dd : Addr) (vs : List (Str × V)) (v u : V) (s t : Str), (i < σ.length → σ[i]? = some (some (.ref a))) ∧ cls = .ref Cx ∧ d = some dd ∧ H dd = some (.xd vs) ∧
  XfC K Cx ∧ PySem.W.findIn K (.ref Cx) f = some none ∧ vs.lookup f = some v ∧ σ[j]? = some (some u) ∧ ReprV K H v s ∧ ReprV K H u t ∧ k = decide (s = t)
theorem pe_req {p1 p2 p3 p4 p5 p6 p7 : Pos} (g : Gx G lvl c X) (hgl : glB c "repr" = true) (hm : G.mg "repr" = none) (hN : X.N[i]? = some n) (hv : Vis X.env.scope n) (d1 : (n == ("__debug__" : Str)) = false) (d2 : (n == ("__classdict__" : Str)) = false)
    (hN2 : X.N[j]? = some y) (hv2 : Vis X.env.scope y) (e1 : (y == ("__debug__" : Str)) = false) (e2 : (y == ("__classdict__" : Str)) = false) (hz : Zc cls d oe) (hf : ∃ vs, oe.data = .fields vs) :
    PE (X.suite a ((a, oe) :: pn)) (.Compare (.Call (.Name "repr" p1) [.Attribute (.Name n p2) f p3] [] p4) [.Eq] [.Call (.Name "repr" p5) [.Name y p6] [] p7] pos) (fun σ H Q => ∃ k, tReq X.K i j a cls d f σ H k ∧ Q (.bl k) H) := by
  refine ⟨fun pins s σ H Q I ⟨k, hq, q⟩ => ?_⟩
  obtain ⟨Cx, dd, vs, v, u, s1, t1, h1, h2, h3, h4, h5, h6, h7, h8, h9, h10, h11⟩ := hq
  have hu := g.hu
  have cr := call_reprD (X := X.suite a ((a, oe) :: pn)) (K := X.K) rfl g.gd hu
  have hmX : X.mg "repr" = none := by rw [g.mg]; exact hm
  have hi : i < σ.length := by
    rw [I.len]
    exact (List.getElem?_eq_some_iff.mp hN).1
  refine (pe_cmpR (X := X.suite a ((a, oe) :: pn)) op_eq
    (pe_callB (X := X.suite a ((a, oe) :: pn)) cr (g.gl hgl) hmX (by decide +kernel) (pa_cons (pe_xf (X := X) (pos := p3) h5 h6 hz hf (pe_var (X := X.suite a ((a, oe) :: pn)) (pos := p2) hN hv d1 d2)) pa_nil (by rfl)) (he := by rfl) (hpl := rfl))
    (pe_callB (X := X.suite a ((a, oe) :: pn)) cr (g.gl hgl) hmX (by decide +kernel) (pa_cons (pe_var (X := X.suite a ((a, oe) :: pn)) (pos := p6) hN2 hv2 e1 e2) pa_nil (by rfl)) (he := by rfl) (hpl := rfl)) (by rfl)).run pins s σ H Q I ?_
  obtain ⟨dv, k1, k2, k3, k4, k5, k6⟩ := h9
  obtain ⟨du, l1, l2, l3, l4, l5, l6⟩ := h10
  subst h11
  refine ⟨.ref a, h1 hi, rfl, h2, dd, vs, v, h3, h4, h7, v, dv, rfl, k1, k2, k3, k4, k5, u, h8, u, du, rfl, l1, l2, l3, l4, l5, rfl, ?_⟩
  rw [← k6, ← l6]
  have : (decide ((V.str s1 : V) = V.str t1)) = decide (s1 = t1) := by simp
  rw [this]
  exact q
theorem pt_req {p1 p2 p3 p4 p5 p6 p7 : Pos} (g : Gx G lvl c X) (hgl : glB c "repr" = true) (hm : G.mg "repr" = none) (hN : X.N[i]? = some n) (hv : Vis X.env.scope n) (d1 : (n == ("__debug__" : Str)) = false) (d2 : (n == ("__classdict__" : Str)) = false)
    (hN2 : X.N[j]? = some y) (hv2 : Vis X.env.scope y) (e1 : (y == ("__debug__" : Str)) = false) (e2 : (y == ("__classdict__" : Str)) = false) (hz : Zc cls d oe) (hf : ∃ vs, oe.data = .fields vs) :
    PT (X.suite a ((a, oe) :: pn)) (.Compare (.Call (.Name "repr" p1) [.Attribute (.Name n p2) f p3] [] p4) [.Eq] [.Call (.Name "repr" p5) [.Name y p6] [] p7] pos) (fun σ H Q => ∃ k, tReq X.K i j a cls d f σ H k ∧ Q k H) := by
  refine ⟨fun pins s σ H Q I ⟨k, hq, q⟩ => ?_⟩
  obtain ⟨Cx, dd, vs, v, u, s1, t1, h1, h2, h3, h4, h5, h6, h7, h8, h9, h10, h11⟩ := hq
  have hu := g.hu
  have cr := call_reprD (X := X.suite a ((a, oe) :: pn)) (K := X.K) rfl g.gd hu
  have hmX : X.mg "repr" = none := by rw [g.mg]; exact hm
  have hi : i < σ.length := by
    rw [I.len]
    exact (List.getElem?_eq_some_iff.mp hN).1
  refine (pt_cmpR (X := X.suite a ((a, oe) :: pn)) op_eq
    (pe_callB (X := X.suite a ((a, oe) :: pn)) cr (g.gl hgl) hmX (by decide +kernel) (pa_cons (pe_xf (X := X) (pos := p3) h5 h6 hz hf (pe_var (X := X.suite a ((a, oe) :: pn)) (pos := p2) hN hv d1 d2)) pa_nil (by rfl)) (he := by rfl) (hpl := rfl))
    (pe_callB (X := X.suite a ((a, oe) :: pn)) cr (g.gl hgl) hmX (by decide +kernel) (pa_cons (pe_var (X := X.suite a ((a, oe) :: pn)) (pos := p6) hN2 hv2 e1 e2) pa_nil (by rfl)) (he := by rfl) (hpl := rfl)) (by rfl)).run pins s σ H Q I ?_
  obtain ⟨dv, k1, k2, k3, k4, k5, k6⟩ := h9
  obtain ⟨du, l1, l2, l3, l4, l5, l6⟩ := h10
  subst h11
  refine ⟨.ref a, h1 hi, rfl, h2, dd, vs, v, h3, h4, h7, v, dv, rfl, k1, k2, k3, k4, k5, u, h8, u, du, rfl, l1, l2, l3, l4, l5, rfl, ?_⟩
  rw [← k6, ← l6]
  have : (decide ((V.str s1 : V) = V.str t1)) = decide (s1 = t1) := by simp
  rw [this]
  exact ⟨_, rfl, q⟩
/-- a written constant -/
def cstB : W → Expr → Bool
  | .non, .Constant .none _ _ => true
  | .bl b, .Constant (.bool b') _ _ => decide (b = b')
  | _, _ => false
def cstV : W → V
  | .bl b => .bl b
  | _ => .non
theorem pe_cst {X : Cx} {w : W} {e : Expr} (h : cstB w e = true) : PE X e (tC (cstV w)) := by
  unfold cstB at h
  split at h
  · exact pe_non
  · rename_i b b' _ _
    have h := of_decide_eq_true h
    subst h
    exact pe_bl
  · exact absurd h Bool.false_ne_true
theorem cst_vr {w : W} {e : Expr} (h : cstB w e = true) (H : Hp) (ι : List Addr) : VR G H ι w (cstV w) := by
  unfold cstB at h
  split at h
  · exact .non
  · exact .bl _
  · exact absurd h Bool.false_ne_true
theorem pss_req {e : Expr} {p2 : Pos} (h : PE (X.suite a ((a, oe) :: pn)) e (fun σ H Q => ∃ k, tReq X.K i j a cls d f σ H k ∧ Q (.bl k) H)) :
    PSs (X.suite a ((a, oe) :: pn)) [.Return (some e) p2] (fun D σ H => ∃ k, tReq X.K i j a cls d f σ H k ∧ D.rt (.bl k) H) := pss_one (ps_ret h)
theorem pss_ifr {e eb ed : Expr} {wa wb : W} {p2 p3 : Pos} (h : PE (X.suite a ((a, oe) :: pn)) e (fun σ H Q => ∃ k, tReq X.K i j a cls d f σ H k ∧ Q (.bl k) H)) (ht : PT (X.suite a ((a, oe) :: pn)) e (fun σ H Q => ∃ k, tReq X.K i j a cls d f σ H k ∧ Q k H)) (ha : cstB wa eb = true) (hb : cstB wb ed = true) :
    PSs (X.suite a ((a, oe) :: pn)) [.Return (some (.IfExp e eb ed p3)) p2] (fun D σ H => ∃ k, tReq X.K i j a cls d f σ H k ∧ D.rt (cstV (if k = true then wa else wb)) H) := by
  refine PSs.imp (pss_one (ps_ret (pe_ifExp ht (pe_cst ha) (pe_cst hb)))) fun D σ H ⟨k, h1, h2⟩ => ⟨k, h1, ?_⟩
  cases k with
  | true => exact iteT h2
  | false => exact iteF h2
end
end
end MP
set_option maxRecDepth 100000
set_option maxHeartbeats 4000000
/-! several clauses that name what they catch -/
namespace MP
open PySem PySem.Spec PyProof.Rows L2
/-- one clause: its class, the slot of its name, its suite -/
abbrev Cl := Value × Nat × (Addr → Value → Option Addr → TS)
/-- behind a suite the name is gone -/
def gone (D : Ends) (i : Nat) : Ends := { nx := fun σ' H' => D.nx (σ'.set i none) H', rt := D.rt, bk := fun σ' H' => D.bk (σ'.set i none) H', ct := fun σ' H' => D.ct (σ'.set i none) H' }
def wCl (K : PySem.W.Frag) (Wout : WX) (D : Ends) : List Cl → WX
  | [] => Wout
  | k :: r => fun cls d σ H => ∃ b, PySem.W.exmOne K cls k.1 = some b ∧ (b = true → ∀ a, H a = none → k.2.2 a cls d (gone D k.2.1) (σ.set k.2.1 (some (.ref a))) H) ∧ (b = false → wCl K Wout D r cls d σ H)
inductive ClOk (X : Cx) : List ExceptHandler → List Cl → Prop
  | nil : ClOk X [] []
  | cons {x n : Str} {i : Nat} {c : Value} {ts : Addr → Value → Option Addr → TS} {b₀ : Stmt} {suite : List Stmt} {np pos' : Pos} {hds : List ExceptHandler} {l : List Cl} (hc : Names X x c) (hi : X.N[i]? = some n) (hln : X.env.kindOf n = some .local)
      (hsu : ∀ (a : Addr) (oe : Obj) (cls : Value) (d : Option Addr) (pn : List (Addr × Obj)), Zc cls d oe → (∃ vs, oe.data = .fields vs) → PSs (X.suite a ((a, oe) :: pn)) (b₀ :: suite) (ts a cls d)) (r : ClOk X hds l) :
      ClOk X (.ExceptHandler (some (.Name x np)) (some n) (b₀ :: suite) pos' :: hds) ((c, i, ts) :: l)
theorem ClOk.ne {X : Cx} {hds : List ExceptHandler} {l : List Cl} (h : ClOk X hds l) (e : l ≠ []) : ∃ h0 hs, hds = h0 :: hs := by
  cases h with
  | nil => exact absurd rfl e
  | cons _ _ _ _ _ => exact ⟨_, _, rfl⟩
section
variable {X : Cx} {body : List Stmt} {hd₀ : ExceptHandler} {hds : List ExceptHandler} {l : List Cl} {pos : Pos} {tb : WX → TS} {Wout : WX}
theorem ps_try_cl (hs : X.stack = X.env :: X.outer) (hf : X.env.frame = some X.env.locals) (hN : X.N.Nodup) (tk : Takes X Wout)
    (hb : ∀ (W : WX) (pn : List (Addr × Obj)) (xe : Value → Shared → Prop), Takes (X.tr pn xe) W → PassesOwn (model X.prog X.w) X.A X.env xe → PSs (X.tr pn xe) body (tb W))
    (hh : ClOk X (hd₀ :: hds) l) : PS X (.Try body (hd₀ :: hds) [] [] pos) (fun D σ H => tb (wCl X.K Wout D l) D σ H) := by
  refine ⟨fun pins s σ H D I h => ?_⟩
  have ok := I.ok
  have hfr : X.A.frames = some (X.env :: X.outer) := by rw [ok.frames, hs]
  refine wpAny_Try_except (wpAny_mono ((hb (wCl X.K Wout D l) (X.pn ++ pins) (fun e s₁ => wpAny (model X.prog X.w) X.A (noteFrame e X.env) (fun _ s₂ => wpAny (model X.prog X.w) X.A (setFlight e none) (fun _ s₃ =>
    wpAny (model X.prog X.w) X.A (handleBy e X.env (hd₀ :: hds)) (SP X pins D) X.xe s₃) X.xe s₂) X.xe s₁) (fun u s' xx => ?_) PassesOwn.looking).run [] s σ H D (I.toTry _) h) (fun f s1 hsp => ?_) (fun e s1 he => he))
  · obtain ⟨a, B, sI, pins', σ', H', cls, d, rfl, J', nb, up, sky, na, os, ag, w⟩ := xx
    have J : Inv X pins σ' H' sI := J'.ofTry ok
    have sky' : Sky B (X.env :: X.outer) a (Zc cls d) X.env.locals s'.heap := by rw [← hs]; exact sky
    show wpAny (model X.prog X.w) X.A (noteFrame (.ref a) X.env) _ _ _
    refine Sky.land Zc.steady hfr hf sky' fun h3 fl3 up3 => ?_
    have J3 : Inv X pins σ' H' { s' with heap := h3 } := J.landed nb fl3.1 (up.trans up3) os ag
    obtain ⟨oe3, vs3, he3, hz3, hd3⟩ := fl3.there
    have nfr : a ∉ frs (X.env :: X.outer) := fun hm => by
      obtain ⟨_, o', e', hnf⟩ := fl3.2.2.1.mem hm
      rw [he3] at e'; cases e'
      exact hnf _ hd3
    have nL : a ≠ X.env.locals := fun z => nfr (List.mem_filterMap.mpr ⟨X.env, List.mem_cons_self, by rw [hf, z]⟩)
    have nF : a ∉ X.fs := fun hm => by
      obtain ⟨e, he, q⟩ := List.mem_filterMap.mp hm
      exact nfr (List.mem_filterMap.mpr ⟨e, List.mem_cons_of_mem _ he, q⟩)
    have S3 := J3.suite he3 hd3 na nL nF
    have go : ∀ {hds' : List ExceptHandler} {l' : List Cl}, ClOk X hds' l' → wCl X.K Wout D l' cls d σ' H' →
        wpAny (model X.prog X.w) X.A (handleBy (.ref a) X.env hds') (SP X pins D) X.xe { s' with heap := h3 } := by
      intro hds' l' hk
      induction hk with
      | nil =>
        intro w
        refine wpAny_handleBy_nil ?_
        obtain ⟨k1, k2, k3, oe, vs, T, oT, ts', he, hz, hd, h1, hr⟩ := id fl3
        unfold PySem.passOn
        refine wpAny_bind (wpAny_field he hd h1 ?_)
        rw [if_neg (show ¬ ((Value.ref T == Value.none) = true) from by simp)]
        have fin : wpAny (model X.prog X.w) X.A (setFlight (.ref a) X.env.frame) (fun _ s4 => wpAny (model X.prog X.w) X.A (throw (.ref a) : Sem Flow) (SP X pins D) X.xe s4) X.xe { s' with heap := h3 } := by
          rw [hf]
          refine HandSPX.setFlight_upZ fl3 fun h4 hh4 up4 => wpAny_throw (tk _ _ ?_)
          exact ⟨a, B, sI, pins, σ', H', cls, d, rfl, J, nb, (up.trans up3).trans up4, .inr (.inr (by rw [hs]; exact hh4)), na, os, ag, w⟩
        first
          | exact wpAny_bind (wpAny_pure (wpAny_bind fin))
          | exact wpAny_bind fin
      | @cons x n i c ts b₀ suite np pos' hds2 l2 hc hi hln hsu r ih =>
        intro w
        obtain ⟨b, hb1, hyes, hno⟩ := w
        refine wpAny_handleBy_cons (codeAny_handlers_test ?_) (by intro q; cases q)
        have LT : PySem.W.Looks (model X.prog X.w) h3 (typeOf (.ref a)) cls := fun A Q E s k q => wpAny_typeOf_ref (k _ _ he3) (by rw [hz3.1]; exact q)
        have LM := PySem.W.exm_one (M := model X.prog X.w) (J3.kIn) LT hb1
        have test : ∀ {Q : Value → Shared → Prop} {E : Value → Shared → Prop}, Q c { s' with heap := h3 } → wpAny (model X.prog X.w) (X.A.mark (some (.ref a))) (eval (.Name x np) X.env) Q E { s' with heap := h3 } := fun {Q E} q => by
          obtain ⟨hg, hdbg, hm | ⟨hm, hv, hnn⟩⟩ := hc
          · exact ld_glob (X := X.suite a ((a, oe3) :: (X.pn ++ pins))) S3 hg hm q hdbg
          · exact ld_blt (X := X.suite a ((a, oe3) :: (X.pn ++ pins))) S3 hg hm hv q hnn hdbg
        refine test (LM.here ?_)
        cases b with
        | true =>
          refine codeAny_handlers_suite_as ?_
          refine HandSPX.lands_againZ fl3 fun h4 fl4 up4 => ?_
          have J4 : Inv X pins σ' H' { s' with heap := h4 } := J.landed nb fl4.1 ((up.trans up3).trans up4) os ag
          obtain ⟨oe4, vs4, he4, hz4, hd4⟩ := fl4.there
          have S4 := J4.suite he4 hd4 na nL nF
          refine store_ok (X := X.suite a ((a, oe4) :: (X.pn ++ pins))) (v := .ref a) S4 hN hi (.inl hln) rfl (fun s5 S5 => ?_) (.inr hln)
          refine wpAny_mono ((hsu a oe4 cls d (X.pn ++ pins) hz4 ⟨_, hd4⟩).run [] s5 _ H' _ S5 (hyes rfl a na)) (fun f s6 hsp => ?_) (fun _ _ z => False.elim z)
          have end_ : ∀ {σ6 : L2.St} {H6 : Hp} {Q : Shared → Prop}, Inv (X.suite a ((a, oe4) :: (X.pn ++ pins))) [] σ6 H6 s6 → (∀ s7, Inv X pins (σ6.set i none) H6 s7 → Q s7) →
              wpAny (model X.prog X.w) X.A (do bindName X.env n .none; unbindBehindTheSuite X.env n pos') (fun _ s7 => Q s7) X.xe s6 := fun {σ6 H6 Q} S6 hq => gone_ok (S6.unsuite ok) hN hi hln hq
          cases f with
          | next =>
            obtain ⟨σ6, H6, S6, q6⟩ := hsp
            exact end_ S6 fun s7 J7 => ⟨_, _, J7, q6⟩
          | brk =>
            obtain ⟨σ6, H6, S6, q6⟩ := hsp
            exact end_ S6 fun s7 J7 => ⟨_, _, J7, q6⟩
          | cont =>
            obtain ⟨σ6, H6, S6, q6⟩ := hsp
            exact end_ S6 fun s7 J7 => ⟨_, _, J7, q6⟩
          | ret u =>
            obtain ⟨v6, σ6, H6, S6, r6, q6⟩ := hsp
            exact end_ S6 fun s7 J7 => ⟨_, _, _, J7, r6, q6⟩
        | false =>
          show wpAny _ X.A (handleBy (.ref a) X.env hds2) _ _ _
          exact ih (hno rfl)
    exact go hh w
  · cases f with
    | next =>
      obtain ⟨σ', H', J', q⟩ := hsp
      exact wpAny_execs_nil ⟨σ', H', J'.ofTry ok, q⟩
    | brk =>
      obtain ⟨σ', H', J', q⟩ := hsp
      exact ⟨σ', H', J'.ofTry ok, q⟩
    | cont =>
      obtain ⟨σ', H', J', q⟩ := hsp
      exact ⟨σ', H', J'.ofTry ok, q⟩
    | ret u =>
      obtain ⟨v, σ', H', J', r, q⟩ := hsp
      exact ⟨v, σ', H', J'.ofTry ok, r, q⟩
end
section
variable {G : Pg} {lvl : Nat} {c : Ctx} {X : Cx} {Wx : WX} {C : Cc} {pos : Pos}
/-- what a clause hands back, against the text -/
def hrB (c : Ctx) (n : Str) : Hr → Expr → Bool
  | .lst items, .List es _ => hxB c n items es && decide (es.length ≤ 100)
  | .eqr f j, e => hqB c n f j e
  | .ifr f j a b, .IfExp e ea eb _ => hqB c n f j e && cstB a ea && cstB b eb
  | _, _ => false
where hqB (c : Ctx) (n f : Str) (j : Nat) : Expr → Bool
  | .Compare (.Call (.Name r _) [.Attribute (.Name m _) g _] [] _) [.Eq] [.Call (.Name r2 _) [.Name y _] [] _] _ => decide (r = ("repr" : Str)) && decide (r2 = ("repr" : Str)) && glB c "repr" && decide (m = n) && decide (g = f) && decide (c.N[j]? = some y) && visB c y && debB y && decide (y ≠ n)
  | _ => false
/-- the text's clauses against the tree's -/
def hdB (c : Ctx) : List Hd → List ExceptHandler → Bool
  | [], [] => true
  | d :: ds, .ExceptHandler (some (.Name y _)) (some n) [.Return (some e) _] _ :: hs => decide (d.cls = y) && decide (y ∈ c.cls) && glB c y && debB y && decide (c.N[d.slot]? = some n) && decide (c.names.lookup n = some .local) && debB n &&
      hrB c n d.ret e && hdB c ds hs
  | _, _ => false
theorem eqr_of {x : Exn} {f : Str} {i j : Nat} {ℓ : Lo} {h : List O} {ι : List Addr} {H : Hp} {σ : L2.St} {k : Bool} {Cx : Addr} {d : Option Addr} (S : Sx G lvl c X Wx) (E : Ec G C lvl c.exs c.cls) (hij : i ≠ j) (e : hrq C x f j ℓ h = some k) (q : Rel G h ι H) (l : LR G H ι ℓ σ) (xr : XR G H ι x (.ref Cx) d) (a : Addr) :
    tReq X.K i j a (.ref Cx) d f (σ.set i (some (.ref a))) H k := by
  have g := S.g
  unfold hrq at e
  split at e
  · rename_i hin
    simp only [Option.bind_eq_some_iff, Option.map_eq_some_iff] at e
    obtain ⟨w, e1, u, e2, s, e3, t, e4, rfl⟩ := e
    obtain ⟨Cx', c1, c2, c3⟩ := xr
    cases c2
    rw [E.same] at hin
    obtain ⟨Ca, fI, fd, pv, T⟩ := E.made _ _ hin
    have ec := T.cls
    rw [c1] at ec
    cases ec
    obtain ⟨uv, u1, u2⟩ := l.at_ j u e2
    rcases c3 with ⟨z, _⟩ | ⟨dd, vs, z1, z2, z3, z4⟩
    · rw [z] at e1; cases e1
    · obtain ⟨v, h4, h5⟩ := z3.look e1
      refine ⟨Cx, dd, vs, v, uv, s, t, fun hi => List.getElem?_set_self (by simpa using hi), rfl, z1, z2, by rw [g.K]; exact T.xf, by rw [g.K]; exact T.no, h4, by rw [List.getElem?_set_ne hij]; exact u1, ?_, ?_, rfl⟩
      · rw [g.K]; exact shD_of q h5 e3
      · rw [g.K]; exact shD_of q u2 e4
  · cases e
/-- what a clause does, by its suite -/
theorem hr_ok (F : Fc G C.cn lvl c.fs) (S : Sx G lvl c X Wx) (E : Ec G C lvl c.exs c.cls) {n : Str} {i : Nat} {p1 : Pos} (hN : c.N[i]? = some n) (hn : c.names.lookup n = some .local) (hd : debB n = true) : ∀ {r : Hr} {e : Expr}, hrB c n r e = true →
    ∃ ts : Addr → Value → Option Addr → TS, (∀ (a : Addr) (oe : Obj) (cls : Value) (d : Option Addr) (pn : List (Addr × Obj)), Zc cls d oe → (∃ vs, oe.data = .fields vs) → PSs (X.suite a ((a, oe) :: pn)) [.Return (some e) p1] (ts a cls d)) ∧
      ∀ (D : Ends) (x : Exn) (ℓ : Lo) (h : List O) (ι : List Addr) (H : Hp), PostS G Wx ι H (hrS C x r ℓ h) (DK G D) → ∀ ι' H' σ' Cx d, Step ι H ι' H' → Rel G h ι' H' → LR G H' ι' ℓ σ' → XR G H' ι' x (.ref Cx) d → ∀ a, ts a (.ref Cx) d (gone D i) (σ'.set i (some (.ref a))) H' := by
  intro r e h
  have g := S.g
  have hNX : X.N[i]? = some n := by rw [g.N]; exact hN
  have hk : X.env.scope.names.lookup n = some .local := by rw [g.nm]; exact hn
  have rep : ∀ {f : Str} {j : Nat} {e : Expr}, hrB.hqB c n f j e = true → ∃ y p1 p2 p3 p4 p5 p6 p7 p8, e = .Compare (.Call (.Name "repr" p1) [.Attribute (.Name n p2) f p3] [] p4) [.Eq] [.Call (.Name "repr" p5) [.Name y p6] [] p7] p8 ∧ glB c "repr" = true ∧ X.N[j]? = some y ∧ Vis X.env.scope y ∧ debB y = true ∧ i ≠ j := by
    intro f j e h
    unfold hrB.hqB at h
    split at h
    · simp only [Bool.and_eq_true, decide_eq_true_eq] at h
      obtain ⟨⟨⟨⟨⟨⟨⟨⟨rfl, rfl⟩, h3⟩, rfl⟩, rfl⟩, h6⟩, h7⟩, h8⟩, h9⟩ := h
      refine ⟨_, _, _, _, _, _, _, _, _, rfl, h3, by rw [g.N]; exact h6, g.vis h7, h8, fun z => h9 ?_⟩
      subst z
      rw [hN] at h6
      cases h6
      rfl
    · exact absurd h Bool.false_ne_true
  cases r with
  | lst items =>
    cases e <;> first
      | exact absurd h Bool.false_ne_true
      | skip
    rename_i es p0
    have h : (hxB c n items es && decide (es.length ≤ 100)) = true := h
    simp only [Bool.and_eq_true, decide_eq_true_eq] at h
    refine ⟨tSuite X.K i items, fun a oe cls d pn hz hf => pss_suite (c := c) hNX (.inl hk) (deb_of hd) (cd_of hd) h.1 (Nat.le_trans h.2 (by decide)) a oe cls d pn hz hf, fun D x ℓ' h' ι H p ι' H' σ' Cx d s q l' xr a => ?_⟩
    obtain ⟨Cx', c1, c2, c3⟩ := xr
    cases c2
    unfold hrS at p
    dsimp only at p
    split at p
    · rename_i ws ew
      obtain ⟨_, p⟩ := p.chk
      have fr : ∃ vs, (vs = [] ∨ ∃ dd, d = some dd ∧ H' dd = some (.xd vs)) ∧ FR G H' ι' x.fs vs := by
        rcases c3 with ⟨e1, e2⟩ | ⟨dd, vs, e1, e2, e3, e4⟩
        · exact ⟨[], .inl rfl, by rw [e1]; exact .nil⟩
        · exact ⟨vs, .inr ⟨dd, e1, e2⟩, e3⟩
      obtain ⟨vs, k1, k2⟩ := fr
      obtain ⟨k3, us, k4, k5⟩ := hx_vals k2 ew
      refine ⟨Cx, vs, us, fun hi => List.getElem?_set_self (by simpa using hi), rfl, k1, fun f hf => ?_, k4, fun p' od hp => ?_⟩
      · have hin := k3 f hf
        rw [E.same] at hin
        obtain ⟨Ca, fI, fd, pv, T⟩ := E.made _ _ hin
        have e := T.cls
        rw [c1] at e
        cases e
        rw [g.K]
        exact ⟨T.xf, T.no⟩
      · have st : Step ι' H' ι' (upd H' p' (.frz od (.lst us))) := Step.new hp
        exact p ι' _ σ' (s.trans st) (q.new hp) (l'.mono st) _ (.slst (.inl ⟨od, upd_same⟩) (k5.mono st))
    · exact False.elim p
  | eqr f j =>
    obtain ⟨y, p1, p2, p3, p4, p5, p6, p7, p8, rfl, h1, h2, h3, h4, h5⟩ := rep (show hrB.hqB c n f j e = true from h)
    refine ⟨fun a cls d D σ H => ∃ k, tReq X.K i j a cls d f σ H k ∧ D.rt (.bl k) H, fun a oe cls d pn hz hf => pss_req (pe_req g h1 (F.blt _ (by decide)) hNX (.inl hk) (deb_of hd) (cd_of hd) h2 h3 (deb_of h4) (cd_of h4) hz hf), fun D x ℓ' h' ι H p ι' H' σ' Cx d s q l' xr a => ?_⟩
    unfold hrS at p
    dsimp only at p
    split at p
    · rename_i k ek
      exact ⟨k, eqr_of S E h5 ek q l' xr a, p ι' H' σ' s q l' _ (.bl k)⟩
    · exact False.elim p
  | ifr f j wa wb =>
    cases e <;> first
      | exact absurd h Bool.false_ne_true
      | skip
    rename_i e ea eb p0
    have h : (hrB.hqB c n f j e && cstB wa ea && cstB wb eb) = true := h
    simp only [Bool.and_eq_true] at h
    obtain ⟨⟨h, ha⟩, hb⟩ := h
    obtain ⟨y, p1, p2, p3, p4, p5, p6, p7, p8, rfl, h1, h2, h3, h4, h5⟩ := rep h
    refine ⟨fun a cls d D σ H => ∃ k, tReq X.K i j a cls d f σ H k ∧ D.rt (cstV (if k = true then wa else wb)) H, fun a oe cls d pn hz hf => pss_ifr (pe_req g h1 (F.blt _ (by decide)) hNX (.inl hk) (deb_of hd) (cd_of hd) h2 h3 (deb_of h4) (cd_of h4) hz hf)
      (pt_req g h1 (F.blt _ (by decide)) hNX (.inl hk) (deb_of hd) (cd_of hd) h2 h3 (deb_of h4) (cd_of h4) hz hf) ha hb, fun D x ℓ' h' ι H p ι' H' σ' Cx d s q l' xr a => ?_⟩
    unfold hrS at p
    dsimp only at p
    split at p
    · rename_i k ek
      refine ⟨k, eqr_of S E h5 ek q l' xr a, p ι' H' σ' s q l' _ ?_⟩
      cases k with
      | true => exact cst_vr ha _ _
      | false => exact cst_vr hb _ _
    · exact False.elim p
theorem hd_ok (F : Fc G C.cn lvl c.fs) (S : Sx G lvl c X Wx) (E : Ec G C lvl c.exs c.cls) : ∀ {ds : List Hd} {hs : List ExceptHandler}, hdB c ds hs = true → ∃ l, ClOk X hs l ∧ (ds ≠ [] → l ≠ []) ∧
    ∀ (D : Ends) (x : Exn) (ℓ : Lo) (h : List O) (ι : List Addr) (H : Hp), PostS G Wx ι H (catchS C x ds ℓ h) (DK G D) → ∀ ι' H' σ' Cx d, Step ι H ι' H' → Rel G h ι' H' → LR G H' ι' ℓ σ' → XR G H' ι' x (.ref Cx) d → wCl X.K Wx D l (.ref Cx) d σ' H'
  | [], [], _ => ⟨[], .nil, fun z => absurd rfl z, fun D x ℓ h ι H p ι' H' σ' Cx d s q l xr => p ι' H' σ' _ d s q l xr⟩
  | [], _ :: _, h => absurd h Bool.false_ne_true
  | _ :: _, [], h => absurd h Bool.false_ne_true
  | d0 :: ds, hh :: hs, hb => by
    unfold hdB at hb
    split at hb
    · rename_i heq _
      cases heq
    · rename_i d' ds' y np n e p2 p3 hs' e1 e2
      cases e1
      cases e2
      simp only [Bool.and_eq_true, decide_eq_true_eq] at hb
      obtain ⟨⟨⟨⟨⟨⟨⟨⟨h1, h2⟩, h3⟩, h4⟩, h5⟩, h6⟩, h7⟩, h8⟩, h10⟩ := hb
      obtain ⟨cl, i, ret⟩ := d0
      dsimp only at h1 h5 h8
      subst h1
      obtain ⟨l, k1, k2, k3⟩ := hd_ok F S E h10
      have g := S.g
      obtain ⟨Cy, hm, hx⟩ := E.isa cl h2
      have hNX : X.N[i]? = some n := by rw [g.N]; exact h5
      have hk : X.env.scope.names.lookup n = some .local := by rw [g.nm]; exact h6
      obtain ⟨ts, t1, t2⟩ := hr_ok (p1 := p2) F S E h5 h6 h7 h8
      refine ⟨(.ref Cy, i, ts) :: l, .cons ⟨g.gl h3, deb_of h4, .inl (by rw [g.mg]; exact hm)⟩ hNX hk t1 k1, fun _ => List.cons_ne_nil _ _, fun D x ℓ' h' ι H p ι' H' σ' Cx d s q l' xr => ?_⟩
      have xr0 := xr
      obtain ⟨Cx', c1, c2, c3⟩ := xr
      cases c2
      unfold catchS at p
      split at p
      · rename_i ei
        exact ⟨true, by rw [g.K]; exact hx _ _ _ ei c1, fun _ a na => t2 D x ℓ' h' ι H p ι' H' σ' Cx d s q l' xr0 a, fun z => absurd z (by decide)⟩
      · rename_i ei
        refine ⟨false, by rw [g.K]; exact hx _ _ _ ei c1, fun z => absurd z (by decide), fun _ => ?_⟩
        exact k3 D x ℓ' h' ι H p ι' H' σ' Cx d s q l' ⟨Cx, c1, rfl, c3⟩
      · exact False.elim p
    · exact absurd hb Bool.false_ne_true
theorem s_tryM {body : List Stmt} {mb : Mss} {ds : List Hd} {hs : List ExceptHandler} (F : Fc G C.cn lvl c.fs) (S : Sx G lvl c X Wx) (E : Ec G C lvl c.exs c.cls) (hne : ds ≠ []) (hB : hdB c ds hs = true)
    (hb : ∀ (W : WX) (pn : List (Addr × Obj)) (xe : Value → Shared → Prop), Takes (X.tr pn xe) W → PassesOwn (model X.prog X.w) X.A X.env xe → PSs (X.tr pn xe) body (tSt G W (evSs C mb))) :
    PS X (.Try body hs [] [] pos) (tSt G Wx (evS C (.try mb ds))) := by
  obtain ⟨l, k1, k2, k3⟩ := hd_ok F S E hB
  obtain ⟨h0, hs', rfl⟩ := k1.ne (k2 hne)
  refine PS.imp (ps_try_cl S.stk S.fr (by rw [S.g.N]; exact S.g.nd) S.tk hb k1) fun D σ H ⟨ι, hh, ℓ, r, lr, p⟩ => ?_
  refine ⟨ι, hh, ℓ, r, lr, ?_⟩
  have p : PostS G Wx ι H (match evSs C mb ℓ hh with
    | .ok f ℓ h => .ok f ℓ h
    | .exc x ℓ h => catchS C x ds ℓ h
    | .stuck => .stuck) (DK G D) := p
  revert p
  cases evSs C mb ℓ hh with
  | stuck => exact fun p => p
  | ok f ℓ' h' => exact fun p => p
  | exc x ℓ' h' =>
    intro p ι' H' σ' cls d s q l xr
    obtain ⟨Cx, c1, rfl, c3⟩ := xr
    exact k3 D x ℓ' h' ι H p ι' H' σ' Cx d s q l ⟨Cx, c1, rfl, c3⟩
end
end MP
set_option maxRecDepth 100000
set_option maxHeartbeats 4000000
namespace MP
open PySem PySem.Spec PyProof.Rows L2

/-! ### the text against the tree -/
def tyChk (c : Ctx) : List String → List Expr → Bool
  | [], [] => true
  | T :: Ts, .Name x _ :: es => decide (x = Str.ofString T) && tyNames.contains T && glB c x && tyChk c Ts es
  | _, _ => false
def isL : Me → Bool
  | .lst _ => true
  | .lrep _ _ => true
  | .lcat _ _ => true
  | .lcut _ _ _ => true
  | .lcomp _ _ _ _ _ => true
  | .rev _ => true
  | .srt _ => true
  | .blt f (.cons _ .nil) => decide (f = "list")
  | _ => false
theorem isL_e {C : Cn} : ∀ {m : Me}, isL m = true → (ev C m).e = true
  | .lst _, _ => rfl
  | .lrep _ _, _ => rfl
  | .lcat _ _, _ => rfl
  | .lcut _ _ _, _ => rfl
  | .lcomp _ _ _ _ _, _ => rfl
  | .rev _, _ => rfl
  | .srt _, _ => rfl
  | .blt f (.cons _ .nil), h => by
    have e : f = "list" := of_decide_eq_true h
    subst e
    rfl
def slT : Mt → List Nat
  | .name i => [i]
  | .tup ts => slTs ts
  | .sub _ _ => []
where slTs : Mts → List Nat
  | .nil => []
  | .cons t ts => slT t ++ slTs ts
def ownN (N : List Str) (own : List Nat) : List (Str × Nat) := own.filterMap fun i => (N[i]?).map fun x => (x, i)
def Mts.len : Mts → Nat
  | .nil => 0
  | .cons _ ts => ts.len + 1
mutual
def trE (c : Ctx) : Me → Expr → Bool
  | .var i => fun e => match e with
    | .Name x _ => decide (c.N[i]? = some x) && visB c x && debB x
    | _ => false
  | .glob y => fun e => match e with
    | .Name x _ => decide (x = y) && glB c x && debB x
    | _ => false
  | .non => fun e => match e with
    | .Constant .none _ _ => true
    | _ => false
  | .bl b => fun e => match e with
    | .Constant (.bool b') _ _ => decide (b = b')
    | _ => false
  | .int i => fun e => match e with
    | .Constant (.int j) _ _ => decide (i = j)
    | _ => false
  | .str x => fun e => match e with
    | .Constant (.str y) _ _ => decide (x = y)
    | _ => false
  | .tup es => fun e => match e with
    | .Tuple xs _ _ => trEs c es xs
    | _ => false
  | .lst es => fun e => match e with
    | .List xs _ => trEs c es xs
    | _ => false
  | .dct kvs => fun e => match e with
    | .Dict ks vs _ => trD c kvs ks vs && decide (ks.length ≤ 15)
    | _ => false
  | .lrep a n => fun e => match e with
    | .BinOp x .Mult y _ => isL a && trE c a x && trE c n y
    | _ => false
  | .lcat a b => fun e => match e with
    | .BinOp x .Add y _ => trE c a x && trE c b y
    | _ => false
  | .lcut a lo hi => fun e => match e with
    | .Subscript x (.Slice l u none _) _ => trE c a x && trO c lo l && trO c hi u
    | _ => false
  | .bin op a b => fun e => match e with
    | .BinOp x o y _ => decide (o = op) && trE c a x && trE c b y
    | _ => false
  | .neg a => fun e => match e with
    | .UnaryOp .USub x _ => trE c a x
    | _ => false
  | .not a => fun e => match e with
    | .UnaryOp .Not x _ => trE c a x
    | _ => false
  | .boolop op es => fun e => match e with
    | .BoolOp o xs _ => decide (o = op) && trB c es xs
    | _ => false
  | .cmp op a b => fun e => match e with
    | .Compare x [o] [y] _ => decide (o = op) && notSet y && trE c a x && trE c b y
    | _ => false
  | .chain op1 op2 a b d => fun e => match e with
    | .Compare x [o1, o2] [y, z] _ => decide (o1 = op1) && decide (o2 = op2) && notSet z && trE c a x && trE c b y && trE c d z
    | _ => false
  | .ife k a b => fun e => match e with
    | .IfExp x y z _ => trE c k x && trE c a y && trE c b z
    | _ => false
  | .call f es => fun e => match e with
    | .Call (.Name x _) xs [] _ => decide (x = f) && decide (f ∈ c.fs) && glB c f && debB f && trEs c es xs
    | _ => false
  | .blt f es => fun e => match e with
    | .Call (.Name x _) xs [] _ => decide (x = f) && glB c f && trK c f es xs
    | _ => false
  | .isi a ts => fun e => match e with
    | .Call (.Name x _) [y, z] [] _ => decide (x = ("isinstance" : Str)) && glB c x && notStar y && trE c a y && (match z with
      | .Name w p => tyChk c ts [.Name w p]
      | .Tuple zs _ _ => tyChk c ts zs && decide (ts.length ≤ 20)
      | _ => false)
    | _ => false
  | .sub a i => fun e => match e with
    | .Subscript x y _ => notSlice y && trE c a x && trE c i y
    | _ => false
  | .slice a lo hi => fun e => match e with
    | .Subscript x (.Slice l u none _) _ => trE c a x && trO c lo l && trO c hi u
    | _ => false
  | .frz a => fun e => isL a && plT e && trE c a e
  | .frd kvs => fun e => match e with
    | .Dict ks vs _ => trD c kvs ks vs && decide (ks.length ≤ 15)
    | _ => false
  | .attr a f => fun e => match e with
    | .Attribute x g _ => decide (g = f) && notSup x && trE c a x
    | _ => false
  | .dg1 d k => fun e => match e with
    | .Call (.Attribute x n ap) [y] [] p => decide (n = ("get" : Str)) && notSup x && (ap.endLine == p.line) && notStar y && trE c d x && trE c k y
    | _ => false
  | .dg2 d k z => fun e => match e with
    | .Call (.Attribute x n ap) [y, w] [] p => decide (n = ("get" : Str)) && notSup x && (ap.endLine == p.line) && notStar y && notStar w && trE c d x && trE c k y && trE c z w
    | _ => false
  | .dix d k => fun e => match e with
    | .Subscript x y _ => notSlice y && trE c d x && trE c k y
    | _ => false
  | .int1 a => fun e => match e with
    | .Call (.Name x _) [y] [] _ => decide (x = ("int" : Str)) && glB c x && notStar y && trE c a y
    | _ => false
  | .rev a => fun e => match e with
    | .Subscript x (.Slice none none (some (.UnaryOp .USub (.Constant (.int 1) _ _) _)) _) _ => trE c a x
    | _ => false
  | .srt a => fun e => match e with
    | .Call (.Name x _) [y] [] _ => decide (x = ("sorted" : Str)) && glB c x && notStar y && trE c a y
    | _ => false
  | .isc a k => fun e => match e with
    | .Call (.Name x _) [y, .Name w _] [] _ => decide (x = ("isinstance" : Str)) && glB c x && notStar y && decide (w = k) && glB c k && debB k && trE c a y
    | _ => false
  | .isx a ts => fun e => match e with
    | .Call (.Name x _) [y, z] [] _ => decide (x = ("isinstance" : Str)) && glB c x && notStar y && trE c a y && (match z with
      | .Name w p => tyChk c ts [.Name w p]
      | .Tuple zs _ _ => tyChk c ts zs && decide (ts.length ≤ 20)
      | _ => false)
    | _ => false
  | .olen a => fun e => match e with
    | .Call (.Name x _) [y] [] _ => decide (x = ("len" : Str)) && glB c x && notStar y && trE c a y
    | _ => false
  | .oin neg a b => fun e => match e with
    | .Compare x [o] [y] _ => decide (o = if neg = true then .NotIn else .In) && notSet y && trE c a x && trE c b y
    | _ => false
  | .callf f es ks kes => fun e => match e with
    | .Call (.Name x _) xs kws _ => decide (x = f) && glB c f && debB f && trEs c es xs && decide (kws.map (·.arg) = ks.map some) && trEs c kes (kws.map (·.value))
    | _ => false
  | .meth a m es ks kes => fun e => match e with
    | .Call (.Attribute x n ap) xs kws p => decide (n = m) && notSup x && (ap.endLine == p.line) && decide (xs.length + kws.length < 28) && trE c a x && trEs c es xs && decide (kws.map (·.arg) = ks.map some) && trEs c kes (kws.map (·.value))
    | _ => false
  | .new y es ks kes => fun e => match e with
    | .Call (.Name x _) xs kws _ => decide (x = y) && glB c y && debB y && trEs c es xs && decide (kws.map (·.arg) = ks.map some) && trEs c kes (kws.map (·.value))
    | _ => false
  | .p1 o a => fun e => match p1B c o e with
    | some x => trE c a x
    | none => false
  | .bm m a es => fun e => match e with
    | .Call (.Attribute x n ap) xs [] p => decide (n = m) && notSup x && (ap.endLine == p.line) && trE c a x && trM c m es xs
    | _ => false
  | .lcomp elt tg src ifs own => fun e => match e with
    | .ListComp x [⟨t, it, ifx, n⟩] scope _ => decide (n = 0) && notSet it && blkC c.N { kind := .function, names := c.names, isGenerator := false, isCoroutine := false } scope (ownN c.N own) && decide ((ownN c.N own).map (·.2) = own) && (slT tg).all (fun i => own.contains i) &&
      trI c src t it && trT (c.blk scope) tg t && trF (c.blk scope) ifs ifx && trE (c.blk scope) elt x
    | _ => false
def trEs (c : Ctx) : Mes → List Expr → Bool
  | .nil => fun xs => match xs with
    | [] => true
    | _ => false
  | .cons e es => fun xs => match xs with
    | x :: xs => notStar x && trE c e x && trEs c es xs
    | _ => false
def trD (c : Ctx) : Mks → List (Option Expr) → List Expr → Bool
  | .nil => fun ks vs => match ks, vs with
    | [], [] => true
    | _, _ => false
  | .cons k v r => fun ks vs => match ks, vs with
    | some x :: ks, y :: vs => trE c k x && trE c v y && trD c r ks vs
    | _, _ => false
/-- at least two operands -/
def trB (c : Ctx) : Mes → List Expr → Bool
  | .cons a (.cons b .nil) => fun xs => match xs with
    | [x, y] => trE c a x && trE c b y
    | _ => false
  | .cons a (.cons b (.cons d es)) => fun xs => match xs with
    | x :: y :: z :: xs => trE c a x && trB c (.cons b (.cons d es)) (y :: z :: xs)
    | _ => false
  | _ => fun _ => false
def trK (c : Ctx) (f : Str) : Mes → List Expr → Bool
  | .cons a .nil => fun xs => match xs with
    | [x] => notStar x && trE c a x && decide (f ∈ (["len", "repr", "list", "abs", "tuple", "all", "any", "sum"] : List Str))
    | _ => false
  | .cons a (.cons b .nil) => fun xs => match xs with
    | [x, y] => notStar x && notStar y && trE c a x && trE c b y && decide (f ∈ (["max", "min"] : List Str))
    | _ => false
  | _ => fun _ => false
def trM (c : Ctx) (m : Str) : Mes → List Expr → Bool
  | .cons a .nil => fun xs => match xs with
    | [x] => notStar x && trE c a x && decide (m ∈ (["join", "append"] : List Str))
    | _ => false
  | _ => fun _ => false
def trO (c : Ctx) : Mo → Option Expr → Bool
  | .none => fun o => match o with
    | none => true
    | _ => false
  | .some e => fun o => match o with
    | some x => trE c e x
    | _ => false
def trF (c : Ctx) : Mo → List Expr → Bool
  | .none => fun o => match o with
    | [] => true
    | _ => false
  | .some e => fun o => match o with
    | [x] => trE c e x
    | _ => false
def trT (c : Ctx) : Mt → Expr → Bool
  | .name i => fun e => match e with
    | .Name x _ => decide (c.N[i]? = some x) && setB c x
    | _ => false
  | .tup ts => fun e => match e with
    | .Tuple xs _ _ => trTs c ts xs
    | _ => false
  | .sub a i => fun e => match e with
    | .Subscript x y _ => notSlice y && trE c a x && trE c i y
    | _ => false
def trTs (c : Ctx) : Mts → List Expr → Bool
  | .nil => fun xs => match xs with
    | [] => true
    | _ => false
  | .cons t ts => fun xs => match xs with
    | x :: xs => notStar x && trT c t x && trTs c ts xs
    | _ => false
def trI (c : Ctx) : Mi → Expr → Expr → Bool
  | .val a => fun _ e => trE c a e
  | .range (.cons a .nil) => fun _ e => match e with
    | .Call (.Name x _) [y] [] _ => decide (x = ("range" : Str)) && glB c x && notStar y && trE c a y
    | _ => false
  | .range (.cons a (.cons b .nil)) => fun _ e => match e with
    | .Call (.Name x _) [y, z] [] _ => decide (x = ("range" : Str)) && glB c x && notStar y && notStar z && trE c a y && trE c b z
    | _ => false
  | .range _ => fun _ _ => false
  | .zip a b => fun t e => match t, e with
    | .Tuple _ _ _, .Call (.Name x _) [y, z] [] _ => decide (x = ("zip" : Str)) && glB c x && notStar y && notStar z && trE c a y && trE c b z
    | _, _ => false
  | .enum a => fun t e => match t, e with
    | .Tuple _ _ _, .Call (.Name x _) [y] [] _ => decide (x = ("enumerate" : Str)) && glB c x && notStar y && trE c a y
    | _, _ => false
end
end MP
set_option maxRecDepth 100000
set_option maxHeartbeats 4000000
namespace MP
open PySem PySem.Spec PyProof.Rows L2
theorem tys_of {c : Ctx} : ∀ {Ts : List String} {es : List Expr}, tyChk c Ts es = true → ∃ qs, es = tyExprs Ts qs ∧ Ts.length = qs.length ∧ ∀ T ∈ Ts, T ∈ tyNames ∧ glB c T = true
  | [], [], _ => ⟨[], rfl, rfl, fun _ h => nomatch h⟩
  | [], _ :: _, h => absurd h Bool.false_ne_true
  | _ :: _, [], h => absurd h Bool.false_ne_true
  | T :: Ts, e :: es, h => by
    cases e with
    | Name x q =>
      have h : (decide (x = Str.ofString T) && tyNames.contains T && glB c x && tyChk c Ts es) = true := h
      simp only [Bool.and_eq_true, decide_eq_true_eq, List.contains_iff_mem] at h
      obtain ⟨⟨⟨rfl, h1⟩, h2⟩, h3⟩ := h
      obtain ⟨qs, rfl, h4, h5⟩ := tys_of h3
      refine ⟨q :: qs, rfl, by simp [h4], fun U hU => ?_⟩
      rcases List.mem_cons.mp hU with rfl | hU
      · exact ⟨h1, h2⟩
      · exact h5 U hU
    | _ => exact absurd h Bool.false_ne_true
section
variable {G : Pg} {lvl : Nat} {C : Cn}
theorem trEs_star {c : Ctx} : ∀ {es : Mes} {xs : List Expr}, trEs c es xs = true → xs.all notStar = true
  | .nil, [], _ => rfl
  | .nil, _ :: _, h => absurd h Bool.false_ne_true
  | .cons _ _, [], h => absurd h Bool.false_ne_true
  | .cons e es, x :: xs, h => by
    have h : (notStar x && trE c e x && trEs c es xs) = true := h
    simp only [Bool.and_eq_true] at h
    rw [List.all_cons, h.1.1, trEs_star h.2]
    rfl
theorem takesF {X : Cx} : Takes X WF := fun _ _ x => by
  obtain ⟨_, _, _, _, _, _, _, _, _, _, _, _, _, _, _, _, z⟩ := x
  exact z.elim
/-- an expression that is right -/
def OkM (G : Pg) (lvl : Nat) (C : Cn) (m : Me) : Prop := ∀ (c : Ctx) (X : Cx) (Wx : WX) (e : Expr), Fc G C lvl c.fs → Gx G lvl c X → Takes X Wx → trE c m e = true → OkE G Wx X (ev C m) e
def OkMs (G : Pg) (lvl : Nat) (C : Cn) (m : Mes) : Prop := ∀ (c : Ctx) (X : Cx) (Wx : WX) (es : List Expr), Fc G C lvl c.fs → Gx G lvl c X → Takes X Wx → trEs c m es = true → PA X es (tA G Wx (evs C m))
def OkKs (G : Pg) (lvl : Nat) (C : Cn) (m : Mes) : Prop := ∀ (c : Ctx) (X : Cx) (Wx : WX) (kws : List Keyword), Fc G C lvl c.fs → Gx G lvl c X → Takes X Wx → trEs c m (kws.map (·.value)) = true → PK X kws (tA G Wx (evs C m))
theorem PK.imp {X : Cx} {es : List Keyword} {t t' : TA} (h : PK X es t) (f : ∀ σ H Q, t' σ H Q → t σ H Q) : PK X es t' := ⟨fun pos pins s σ H Q I q => h.run pos pins s σ H Q I (f σ H Q q)⟩
theorem evs_emp {c : Ctx} {es : Mes} (h : trEs c es [] = true) : ∀ ℓ h, evs C es ℓ h = .ok [] h := by
  cases es with
  | nil => exact fun _ _ => rfl
  | cons _ _ => exact absurd h Bool.false_ne_true
theorem ok_var {i : Nat} : OkM G lvl C (.var i) := by
  intro c X Wx e F g tk h
  cases e with
  | Name x p =>
    have h : (decide (c.N[i]? = some x) && visB c x && debB x) = true := h
    simp only [Bool.and_eq_true, decide_eq_true_eq] at h
    exact OkE.ofV g (e_var g h.1.1 h.1.2 h.2) rfl
  | _ => exact absurd h Bool.false_ne_true
theorem ok_glob {y : Str} : OkM G lvl C (.glob y) := by
  intro c X Wx e F g tk h
  cases e with
  | Name x p =>
    have h : (decide (x = y) && glB c x && debB x) = true := h
    simp only [Bool.and_eq_true, decide_eq_true_eq] at h
    obtain ⟨⟨rfl, h1⟩, h2⟩ := h
    exact OkE.ofV g (e_glob F g h1 h2) rfl
  | _ => exact absurd h Bool.false_ne_true
theorem ok_non : OkM G lvl C .non := by
  intro c X Wx e F g tk h
  cases e with
  | Constant k j p =>
    cases k with
    | none => exact OkE.ofV g (e_const pe_non fun _ _ => .non) rfl
    | _ => exact absurd h Bool.false_ne_true
  | _ => exact absurd h Bool.false_ne_true
theorem ok_bl {b : Bool} : OkM G lvl C (.bl b) := by
  intro c X Wx e F g tk h
  cases e with
  | Constant k j p =>
    cases k with
    | bool b' =>
      have h : decide (b = b') = true := h
      have h := of_decide_eq_true h
      subst h
      exact OkE.ofV g (e_const pe_bl fun _ _ => .bl b) rfl
    | _ => exact absurd h Bool.false_ne_true
  | _ => exact absurd h Bool.false_ne_true
theorem ok_int {b : Int} : OkM G lvl C (.int b) := by
  intro c X Wx e F g tk h
  cases e with
  | Constant k j p =>
    cases k with
    | int b' =>
      have h : decide (b = b') = true := h
      have h := of_decide_eq_true h
      subst h
      exact OkE.ofV g (e_const pe_int fun _ _ => .int b) rfl
    | _ => exact absurd h Bool.false_ne_true
  | _ => exact absurd h Bool.false_ne_true
theorem ok_str {b : Str} : OkM G lvl C (.str b) := by
  intro c X Wx e F g tk h
  cases e with
  | Constant k j p =>
    cases k with
    | str b' =>
      have h : decide (b = b') = true := h
      have h := of_decide_eq_true h
      subst h
      exact OkE.ofV g (e_const pe_str fun _ _ => .str b) rfl
    | _ => exact absurd h Bool.false_ne_true
  | _ => exact absurd h Bool.false_ne_true
def OkMi (G : Pg) (lvl : Nat) (C : Cn) (m : Mi) : Prop := ∀ (c : Ctx) (X : Cx) (Wx : WX) (t e : Expr), Fc G C lvl c.fs → Gx G lvl c X → Takes X Wx → trI c m t e = true → PI X t e (tI G Wx (evi C m))
def OkMt (G : Pg) (lvl : Nat) (C : Cn) (m : Mt) : Prop := ∀ (c : Ctx) (X : Cx) (Wx : WX) (e : Expr), Fc G C lvl c.fs → Gx G lvl c X → Takes X Wx → trT c m e = true → PG X e (tG G (slT m) (evt C m))
def OkMf (G : Pg) (lvl : Nat) (C : Cn) (m : Mo) : Prop := ∀ (c : Ctx) (X : Cx) (Wx : WX) (o : List Expr), Fc G C lvl c.fs → Gx G lvl c X → Takes X Wx → trF c m o = true → PTs X o (tT G Wx (evf C m))
theorem okLc (elt : Me) (tg : Mt) (src : Mi) (ifs : Mo) (own : List Nat) (c : Ctx) (X : Cx) (Wx : WX) (x t it : Expr) (ifx : List Expr) (scope : Scope) (n : Int) (F : Fc G C lvl c.fs) (g : Gx G lvl c X) (tk : Takes X Wx) (iI : OkMi G lvl C src) (iT : OkMt G lvl C tg) (iF : OkMf G lvl C ifs) (iE : OkM G lvl C elt) (h : (decide (n = 0) && notSet it && blkC c.N { kind := .function, names := c.names, isGenerator := false, isCoroutine := false } scope (ownN c.N own) && decide ((ownN c.N own).map (·.2) = own) && (slT tg).all (fun i => own.contains i) &&
      trI c src t it && trT (c.blk scope) tg t && trF (c.blk scope) ifs ifx && trE (c.blk scope) elt x) = true) :
    n = 0 ∧ PI X t it (tI G Wx (evi C src)) ∧ notSet it = true ∧ BlkOk X.N X.env.scope scope (ownN c.N own) ∧ ((∀ i ∈ slT tg, i ∈ (ownN c.N own).map (·.2)) ∧ (ownN c.N own).map (·.2) = own) ∧
      (∀ (s : Shared) (H : Hp) (A0 : Addr) (cl : List (Str × Addr)) (fp : List Addr), PG (X.blk s H scope (compEnvC scope cl A0 X.env) fp) t (tG G (slT tg) (evt C tg))) ∧
      (∀ (s : Shared) (H : Hp) (A0 : Addr) (cl : List (Str × Addr)) (fp : List Addr), PTs (X.blk s H scope (compEnvC scope cl A0 X.env) fp) ifx (tT G WF (evf C ifs))) ∧
      (∀ (s : Shared) (H : Hp) (A0 : Addr) (cl : List (Str × Addr)) (fp : List Addr), PE (X.blk s H scope (compEnvC scope cl A0 X.env) fp) x (tV G WF (ev C elt).v)) := by
  simp only [Bool.and_eq_true, decide_eq_true_eq, List.all_eq_true, List.contains_iff_mem] at h
  obtain ⟨⟨⟨⟨⟨⟨⟨⟨h0, h1⟩, h2⟩, h3⟩, h4⟩, h5⟩, h6⟩, h7⟩, h8⟩ := h
  have hb := blkOk_by h2
  have gb := fun s H A0 cl fp => g.blk hb.kind s H A0 cl fp
  refine ⟨h0, iI c X Wx t it F g tk h5, h1, ⟨hb.kind, hb.uniq, by rw [g.N]; exact hb.ix, fun y hy e => by rw [g.nm]; exact hb.free y hy e, by rw [g.N]; exact hb.own⟩, ⟨by rw [h3]; exact h4, h3⟩, fun s H A0 cl fp => iT (c.blk scope) _ WF t F (gb s H A0 cl fp) takesF h6,
    fun s H A0 cl fp => iF (c.blk scope) _ WF ifx F (gb s H A0 cl fp) takesF h7, fun s H A0 cl fp => (iE (c.blk scope) _ WF x F (gb s H A0 cl fp) takesF h8).v⟩
mutual
theorem okE : ∀ m : Me, OkM G lvl C m
  | .var i => ok_var
  | .glob y => ok_glob
  | .non => ok_non
  | .bl b => ok_bl
  | .int b => ok_int
  | .str b => ok_str
  | .tup es => by
    intro c X Wx e F g tk h
    cases e with
    | Tuple xs k p => exact OkE.ofV g (e_tup (okEs es c X Wx xs F g tk h)) rfl
    | _ => exact absurd h Bool.false_ne_true
  | .lst es => by
    intro c X Wx e F g tk h
    cases e with
    | List xs p => exact OkE.ofL g (e_lst (okEs es c X Wx xs F g tk h)) rfl
    | _ => exact absurd h Bool.false_ne_true
  | .dct kvs => by
    intro c X Wx e F g tk h
    cases e with
    | Dict ks vs p =>
      have h : (trD c kvs ks vs && decide (ks.length ≤ 15)) = true := h
      simp only [Bool.and_eq_true, decide_eq_true_eq] at h
      obtain ⟨h1, h2⟩ := h
      cases kvs with
      | nil =>
        cases ks with
        | nil =>
          cases vs with
          | nil => exact OkE.ofV g e_dct0 rfl
          | cons _ _ => exact absurd h1 Bool.false_ne_true
        | cons _ _ => exact absurd h1 Bool.false_ne_true
      | cons k v r =>
        obtain ⟨q1, q2, q3, q4⟩ := okD (.cons k v r) c X Wx ks vs F g tk h1
        exact OkE.ofV g (e_dct (q1 p) q2 q3 (q4 (fun z => nomatch z)) h2) rfl
    | _ => exact absurd h Bool.false_ne_true
  | .frd kvs => by
    intro c X Wx e F g tk h
    cases e with
    | Dict ks vs p =>
      have h : (trD c kvs ks vs && decide (ks.length ≤ 15)) = true := h
      simp only [Bool.and_eq_true, decide_eq_true_eq] at h
      obtain ⟨h1, h2⟩ := h
      cases kvs with
      | nil =>
        cases ks with
        | nil =>
          cases vs with
          | nil => exact OkE.ofV g e_frd0 rfl
          | cons _ _ => exact absurd h1 Bool.false_ne_true
        | cons _ _ => exact absurd h1 Bool.false_ne_true
      | cons k v r =>
        obtain ⟨q1, q2, q3, q4⟩ := okD (.cons k v r) c X Wx ks vs F g tk h1
        exact OkE.ofV g (e_frd (q1 p) q2 q3 (q4 (fun z => nomatch z)) h2) rfl
    | _ => exact absurd h Bool.false_ne_true
  | .frz a => by
    intro c X Wx e F g tk h
    have h : (isL a && plT e && trE c a e) = true := h
    simp only [Bool.and_eq_true] at h
    exact OkE.ofV g (e_frz ((okE a c X Wx e F g tk h.2).l (isL_e h.1.1))) h.1.2
  | .lrep a n => by
    intro c X Wx e F g tk h
    cases e with
    | BinOp x o y p =>
      cases o with
      | Mult =>
        have h : (isL a && trE c a x && trE c n y) = true := h
        simp only [Bool.and_eq_true] at h
        obtain ⟨⟨h1, h2⟩, h3⟩ := h
        exact OkE.ofL g (e_lrep ((okE a c X Wx x F g tk h2).l (isL_e h1)) (okE n c X Wx y F g tk h3).v) rfl
      | _ => exact absurd h Bool.false_ne_true
    | _ => exact absurd h Bool.false_ne_true
  | .lcat a b => by
    intro c X Wx e F g tk h
    cases e with
    | BinOp x o y p =>
      cases o with
      | Add =>
        have h : (trE c a x && trE c b y) = true := h
        simp only [Bool.and_eq_true] at h
        exact OkE.ofL g (e_lcat g (okE a c X Wx x F g tk h.1) (okE b c X Wx y F g tk h.2)) rfl
      | _ => exact absurd h Bool.false_ne_true
    | _ => exact absurd h Bool.false_ne_true
  | .lcut a lo hi => by
    intro c X Wx e F g tk h
    cases e with
    | Subscript x s p =>
      cases s with
      | Slice l u st p2 =>
        cases st with
        | none =>
          have h : (trE c a x && trO c lo l && trO c hi u) = true := h
          simp only [Bool.and_eq_true] at h
          obtain ⟨⟨h1, h2⟩, h3⟩ := h
          exact OkE.ofL g (e_lcut g (okE a c X Wx x F g tk h1) (okO lo c X Wx l F g tk h2) (okO hi c X Wx u F g tk h3)) rfl
        | some _ => exact absurd h Bool.false_ne_true
      | _ => exact absurd h Bool.false_ne_true
    | _ => exact absurd h Bool.false_ne_true
  | .bin op a b => by
    intro c X Wx e F g tk h
    cases e with
    | BinOp x o y p =>
      have h : (decide (o = op) && trE c a x && trE c b y) = true := h
      simp only [Bool.and_eq_true, decide_eq_true_eq] at h
      obtain ⟨⟨rfl, h2⟩, h3⟩ := h
      exact OkE.ofV g (e_bin g (okE a c X Wx x F g tk h2).v (okE b c X Wx y F g tk h3).v) rfl
    | _ => exact absurd h Bool.false_ne_true
  | .neg a => by
    intro c X Wx e F g tk h
    cases e with
    | UnaryOp o x p =>
      cases o with
      | USub => exact OkE.ofV g (e_neg (okE a c X Wx x F g tk h).v) rfl
      | _ => exact absurd h Bool.false_ne_true
    | _ => exact absurd h Bool.false_ne_true
  | .not a => by
    intro c X Wx e F g tk h
    cases e with
    | UnaryOp o x p =>
      cases o with
      | Not => exact e_not g (okE a c X Wx x F g tk h)
      | _ => exact absurd h Bool.false_ne_true
    | _ => exact absurd h Bool.false_ne_true
  | .boolop op es => by
    intro c X Wx e F g tk h
    cases e with
    | BoolOp o xs p =>
      have h : (decide (o = op) && trB c es xs) = true := h
      simp only [Bool.and_eq_true, decide_eq_true_eq] at h
      obtain ⟨rfl, h2⟩ := h
      obtain ⟨q1, q2, q3⟩ := okB es c X Wx xs o p F g tk h2
      exact b_end g q1 q2 q3
    | _ => exact absurd h Bool.false_ne_true
  | .cmp op a b => by
    intro c X Wx e F g tk h
    cases e with
    | Compare x os ys p =>
      rcases os with _ | ⟨o, _ | ⟨_, _⟩⟩ <;> rcases ys with _ | ⟨y, _ | ⟨_, _⟩⟩ <;> first
        | exact absurd h Bool.false_ne_true
        | skip
      have h : (decide (o = op) && notSet y && trE c a x && trE c b y) = true := h
      simp only [Bool.and_eq_true, decide_eq_true_eq] at h
      obtain ⟨⟨⟨rfl, h1⟩, h2⟩, h3⟩ := h
      exact e_cmp g (okE a c X Wx x F g tk h2) (okE b c X Wx y F g tk h3) h1
    | _ => exact absurd h Bool.false_ne_true
  | .chain op1 op2 a b d => by
    intro c X Wx e F g tk h
    cases e with
    | Compare x os ys p =>
      rcases os with _ | ⟨o, _ | ⟨o2, _ | ⟨_, _⟩⟩⟩ <;> rcases ys with _ | ⟨y, _ | ⟨z, _ | ⟨_, _⟩⟩⟩ <;> first
        | exact absurd h Bool.false_ne_true
        | skip
      have h : (decide (o = op1) && decide (o2 = op2) && notSet z && trE c a x && trE c b y && trE c d z) = true := h
      simp only [Bool.and_eq_true, decide_eq_true_eq] at h
      obtain ⟨⟨⟨⟨⟨rfl, rfl⟩, h1⟩, h2⟩, h3⟩, h4⟩ := h
      exact e_chain g (okE a c X Wx x F g tk h2) (okE b c X Wx y F g tk h3) (okE d c X Wx z F g tk h4) h1
    | _ => exact absurd h Bool.false_ne_true
  | .ife k a b => by
    intro c X Wx e F g tk h
    cases e with
    | IfExp x y z p =>
      have h : (trE c k x && trE c a y && trE c b z) = true := h
      simp only [Bool.and_eq_true] at h
      obtain ⟨⟨h1, h2⟩, h3⟩ := h
      exact e_ite (okE k c X Wx x F g tk h1) (okE a c X Wx y F g tk h2) (okE b c X Wx z F g tk h3)
    | _ => exact absurd h Bool.false_ne_true
  | .call f es => by
    intro c X Wx e F g tk h
    cases e with
    | Call fn xs ks p =>
      cases fn with
      | Name x q =>
        cases ks with
        | nil =>
          have h : (decide (x = f) && decide (f ∈ c.fs) && glB c f && debB f && trEs c es xs) = true := h
          simp only [Bool.and_eq_true, decide_eq_true_eq] at h
          obtain ⟨⟨⟨⟨rfl, h1⟩, h2⟩, h3⟩, h4⟩ := h
          cases xs with
          | nil =>
            cases es with
            | nil => exact OkE.ofV g (e_call0 F g tk h1 h2 h3) rfl
            | cons _ _ => exact absurd h4 Bool.false_ne_true
          | cons y ys => exact OkE.ofV g (e_call F g tk h1 h2 h3 (trEs_star h4) (okEs es c X Wx (y :: ys) F g tk h4)) rfl
        | cons _ _ => exact absurd h Bool.false_ne_true
      | _ => exact absurd h Bool.false_ne_true
    | _ => exact absurd h Bool.false_ne_true
  | .blt f es => by
    intro c X Wx e F g tk h
    cases e with
    | Call fn xs ks p =>
      cases fn with
      | Name x q =>
        cases ks with
        | nil =>
          have h : (decide (x = f) && glB c f && trK c f es xs) = true := h
          simp only [Bool.and_eq_true, decide_eq_true_eq] at h
          obtain ⟨⟨rfl, h1⟩, h2⟩ := h
          exact okK es c X Wx x xs q p F g tk h1 h2
        | cons _ _ => exact absurd h Bool.false_ne_true
      | _ => exact absurd h Bool.false_ne_true
    | _ => exact absurd h Bool.false_ne_true
  | .isi a ts => by
    intro c X Wx e F g tk h
    cases e with
    | Call fn xs ks p =>
      cases fn with
      | Name x q =>
        rcases xs with _ | ⟨y, _ | ⟨z, _ | ⟨_, _⟩⟩⟩ <;> cases ks <;> first
          | exact absurd h Bool.false_ne_true
          | skip
        cases z with
        | Name w pw =>
          have h : (decide (x = ("isinstance" : Str)) && glB c x && notStar y && trE c a y && tyChk c ts [.Name w pw]) = true := h
          simp only [Bool.and_eq_true, decide_eq_true_eq] at h
          obtain ⟨⟨⟨⟨rfl, h1⟩, h2⟩, h3⟩, h4⟩ := h
          rcases ts with _ | ⟨T, _ | ⟨_, _⟩⟩
          · exact absurd h4 Bool.false_ne_true
          · have h4 : (decide (w = Str.ofString T) && tyNames.contains T && glB c w && true) = true := h4
            simp only [Bool.and_eq_true, decide_eq_true_eq, List.contains_iff_mem] at h4
            obtain ⟨⟨⟨rfl, h5⟩, h6⟩, _⟩ := h4
            exact OkE.ofV g (k_isi1 F g h1 h2 (okE a c X Wx y F g tk h3).v h5 h6) rfl
          · have h4 : (decide (w = Str.ofString T) && tyNames.contains T && glB c w && false) = true := h4
            rw [Bool.and_false] at h4
            exact absurd h4 Bool.false_ne_true
        | Tuple zs k pw =>
          have h : (decide (x = ("isinstance" : Str)) && glB c x && notStar y && trE c a y && (tyChk c ts zs && decide (ts.length ≤ 20))) = true := h
          simp only [Bool.and_eq_true, decide_eq_true_eq] at h
          obtain ⟨⟨⟨⟨rfl, h1⟩, h2⟩, h3⟩, h4, h5⟩ := h
          obtain ⟨qs, rfl, h6, h7⟩ := tys_of h4
          exact OkE.ofV g (k_isiT F g h1 h2 (okE a c X Wx y F g tk h3).v h6 (by rw [sizeLine_eq]; omega) h7) rfl
        | _ =>
          have h : (decide (x = ("isinstance" : Str)) && glB c x && notStar y && trE c a y && false) = true := h
          rw [Bool.and_false] at h
          exact absurd h Bool.false_ne_true
      | _ => exact absurd h Bool.false_ne_true
    | _ => exact absurd h Bool.false_ne_true
  | .sub a i => by
    intro c X Wx e F g tk h
    cases e with
    | Subscript x y p =>
      have h : (notSlice y && trE c a x && trE c i y) = true := h
      simp only [Bool.and_eq_true] at h
      exact e_sub g (okE a c X Wx x F g tk h.1.2) (okE i c X Wx y F g tk h.2) h.1.1
    | _ => exact absurd h Bool.false_ne_true
  | .slice a lo hi => by
    intro c X Wx e F g tk h
    cases e with
    | Subscript x s p =>
      cases s with
      | Slice l u st p2 =>
        cases st with
        | none =>
          have h : (trE c a x && trO c lo l && trO c hi u) = true := h
          simp only [Bool.and_eq_true] at h
          obtain ⟨⟨h1, h2⟩, h3⟩ := h
          exact OkE.ofV g (e_slice g (okE a c X Wx x F g tk h1).v (okO lo c X Wx l F g tk h2) (okO hi c X Wx u F g tk h3)) rfl
        | some _ => exact absurd h Bool.false_ne_true
      | _ => exact absurd h Bool.false_ne_true
    | _ => exact absurd h Bool.false_ne_true
  | .attr a f => by
    intro c X Wx e F g tk h
    cases e with
    | Attribute x n p =>
      have h : (decide (n = f) && notSup x && trE c a x) = true := h
      simp only [Bool.and_eq_true, decide_eq_true_eq] at h
      obtain ⟨⟨rfl, h1⟩, h2⟩ := h
      exact OkE.ofV g (e_attr F g h1 (okE a c X Wx x F g tk h2).v) rfl
    | _ => exact absurd h Bool.false_ne_true
  | .dg1 d k => by
    intro c X Wx e F g tk h
    unfold trE at h
    split at h
    · rename_i x n ap y p
      simp only [Bool.and_eq_true, decide_eq_true_eq] at h
      obtain ⟨⟨⟨⟨⟨rfl, h1⟩, h2⟩, h3⟩, h4⟩, h5⟩ := h
      exact OkE.ofV g (e_dg1 g (okE d c X Wx x F g tk h4).v (okE k c X Wx y F g tk h5).v h1 h2 h3) rfl
    · exact absurd h Bool.false_ne_true
  | .dg2 d k z => by
    intro c X Wx e F g tk h
    unfold trE at h
    split at h
    · rename_i x n ap y w p
      simp only [Bool.and_eq_true, decide_eq_true_eq] at h
      obtain ⟨⟨⟨⟨⟨⟨⟨rfl, h1⟩, h2⟩, h3⟩, h4⟩, h5⟩, h6⟩, h7⟩ := h
      exact OkE.ofV g (e_dg2 g (okE d c X Wx x F g tk h5).v (okE k c X Wx y F g tk h6).v (okE z c X Wx w F g tk h7).v h1 h2 h3 h4) rfl
    · exact absurd h Bool.false_ne_true
  | .dix d k => by
    intro c X Wx e F g tk h
    unfold trE at h
    split at h
    · rename_i x y p
      simp only [Bool.and_eq_true] at h
      exact OkE.ofV g (e_dix g (okE d c X Wx x F g tk h.1.2).v (okE k c X Wx y F g tk h.2).v h.1.1) rfl
    · exact absurd h Bool.false_ne_true
  | .int1 a => by
    intro c X Wx e F g tk h
    unfold trE at h
    split at h
    · rename_i x q y p
      simp only [Bool.and_eq_true, decide_eq_true_eq] at h
      obtain ⟨⟨⟨rfl, h1⟩, h2⟩, h3⟩ := h
      exact OkE.ofV g (e_int1 F g h1 h2 (okE a c X Wx y F g tk h3).v) rfl
    · exact absurd h Bool.false_ne_true
  | .rev a => by
    intro c X Wx e F g tk h
    unfold trE at h
    split at h
    · exact OkE.ofL g (e_rev g (okE a c X Wx _ F g tk h)) rfl
    · exact absurd h Bool.false_ne_true
  | .srt a => by
    intro c X Wx e F g tk h
    unfold trE at h
    split at h
    · rename_i x q y p
      simp only [Bool.and_eq_true, decide_eq_true_eq] at h
      obtain ⟨⟨⟨rfl, h1⟩, h2⟩, h3⟩ := h
      exact OkE.ofL g (e_srt F g h1 h2 (okE a c X Wx y F g tk h3)) rfl
    · exact absurd h Bool.false_ne_true
  | .isc a k => by
    intro c X Wx e F g tk h
    unfold trE at h
    split at h
    · rename_i x q y w p2 p
      simp only [Bool.and_eq_true, decide_eq_true_eq] at h
      obtain ⟨⟨⟨⟨⟨⟨rfl, h1⟩, h2⟩, rfl⟩, h3⟩, h4⟩, h5⟩ := h
      exact OkE.ofV g (e_isc F g h1 h2 (okE a c X Wx y F g tk h5).v h3 h4) rfl
    · exact absurd h Bool.false_ne_true
  | .isx a ts => by
    intro c X Wx e F g tk h
    cases e with
    | Call fn xs ks p =>
      cases fn with
      | Name x q =>
        rcases xs with _ | ⟨y, _ | ⟨z, _ | ⟨_, _⟩⟩⟩ <;> cases ks <;> first
          | exact absurd h Bool.false_ne_true
          | skip
        cases z with
        | Name w pw =>
          have h : (decide (x = ("isinstance" : Str)) && glB c x && notStar y && trE c a y && tyChk c ts [.Name w pw]) = true := h
          simp only [Bool.and_eq_true, decide_eq_true_eq] at h
          obtain ⟨⟨⟨⟨rfl, h1⟩, h2⟩, h3⟩, h4⟩ := h
          rcases ts with _ | ⟨T, _ | ⟨_, _⟩⟩
          · exact absurd h4 Bool.false_ne_true
          · have h4 : (decide (w = Str.ofString T) && tyNames.contains T && glB c w && true) = true := h4
            simp only [Bool.and_eq_true, decide_eq_true_eq, List.contains_iff_mem] at h4
            obtain ⟨⟨⟨rfl, h5⟩, h6⟩, _⟩ := h4
            exact OkE.ofV g (e_isx1 F g h1 h2 (okE a c X Wx y F g tk h3).v h5 h6) rfl
          · have h4 : (decide (w = Str.ofString T) && tyNames.contains T && glB c w && false) = true := h4
            rw [Bool.and_false] at h4
            exact absurd h4 Bool.false_ne_true
        | Tuple zs k pw =>
          have h : (decide (x = ("isinstance" : Str)) && glB c x && notStar y && trE c a y && (tyChk c ts zs && decide (ts.length ≤ 20))) = true := h
          simp only [Bool.and_eq_true, decide_eq_true_eq] at h
          obtain ⟨⟨⟨⟨rfl, h1⟩, h2⟩, h3⟩, h4, h5⟩ := h
          obtain ⟨qs, rfl, h6, h7⟩ := tys_of h4
          exact OkE.ofV g (e_isxT F g h1 h2 (okE a c X Wx y F g tk h3).v h6 (by rw [sizeLine_eq]; omega) h7) rfl
        | _ =>
          have h : (decide (x = ("isinstance" : Str)) && glB c x && notStar y && trE c a y && false) = true := h
          rw [Bool.and_false] at h
          exact absurd h Bool.false_ne_true
      | _ => exact absurd h Bool.false_ne_true
    | _ => exact absurd h Bool.false_ne_true
  | .olen a => by
    intro c X Wx e F g tk h
    unfold trE at h
    split at h
    · rename_i x q y p
      simp only [Bool.and_eq_true, decide_eq_true_eq] at h
      obtain ⟨⟨⟨rfl, h1⟩, h2⟩, h3⟩ := h
      exact OkE.ofV g (e_olen F g h1 h2 (okE a c X Wx y F g tk h3).v) rfl
    · exact absurd h Bool.false_ne_true
  | .oin neg a b => by
    intro c X Wx e F g tk h
    unfold trE at h
    split at h
    · rename_i x o y p
      simp only [Bool.and_eq_true, decide_eq_true_eq] at h
      obtain ⟨⟨⟨rfl, h1⟩, h2⟩, h3⟩ := h
      exact e_oin F g (okE a c X Wx x F g tk h2).v (okE b c X Wx y F g tk h3).v h1
    · exact absurd h Bool.false_ne_true
  | .callf f es ks kes => by
    intro c X Wx e F g tk h
    cases e with
    | Call fn xs kws p =>
      cases fn with
      | Name x q =>
        have h : (decide (x = f) && glB c f && debB f && trEs c es xs && decide (kws.map (·.arg) = ks.map some) && trEs c kes (kws.map (·.value))) = true := h
        simp only [Bool.and_eq_true, decide_eq_true_eq] at h
        obtain ⟨⟨⟨⟨⟨rfl, h1⟩, h2⟩, h3⟩, h4⟩, h5⟩ := h
        exact OkE.ofV g (e_callf F g tk h1 h2 (trEs_star h3) h4 (okEs es c X Wx xs F g tk h3) (fun z => evs_emp (c := c) (by rw [z] at h3; exact h3)) (okKs kes c X Wx kws F g tk h5)) rfl
      | _ => exact absurd h Bool.false_ne_true
    | _ => exact absurd h Bool.false_ne_true
  | .meth a m es ks kes => by
    intro c X Wx e F g tk h
    cases e with
    | Call fn xs kws p =>
      cases fn with
      | Attribute x n ap =>
        have h : (decide (n = m) && notSup x && (ap.endLine == p.line) && decide (xs.length + kws.length < 28) && trE c a x && trEs c es xs && decide (kws.map (·.arg) = ks.map some) && trEs c kes (kws.map (·.value))) = true := h
        simp only [Bool.and_eq_true] at h
        obtain ⟨⟨⟨⟨⟨⟨⟨h0, h1⟩, h2⟩, h3⟩, h4⟩, h5⟩, h6⟩, h7⟩ := h
        obtain rfl := of_decide_eq_true h0
        exact OkE.ofV g (e_meth F g tk h1 h2 h3 (okE a c X Wx x F g tk h4).v (trEs_star h5) (of_decide_eq_true h6) (okEs es c X Wx xs F g tk h5) (fun z => evs_emp (c := c) (by rw [z] at h5; exact h5)) (okKs kes c X Wx kws F g tk h7)) rfl
      | _ => exact absurd h Bool.false_ne_true
    | _ => exact absurd h Bool.false_ne_true
  | .new y es ks kes => by
    intro c X Wx e F g tk h
    cases e with
    | Call fn xs kws p =>
      cases fn with
      | Name x q =>
        have h : (decide (x = y) && glB c y && debB y && trEs c es xs && decide (kws.map (·.arg) = ks.map some) && trEs c kes (kws.map (·.value))) = true := h
        simp only [Bool.and_eq_true, decide_eq_true_eq] at h
        obtain ⟨⟨⟨⟨⟨rfl, h1⟩, h2⟩, h3⟩, h4⟩, h5⟩ := h
        exact OkE.ofV g (e_new F g tk h1 h2 (trEs_star h3) h4 (okEs es c X Wx xs F g tk h3) (fun z => evs_emp (c := c) (by rw [z] at h3; exact h3)) (okKs kes c X Wx kws F g tk h5)) rfl
      | _ => exact absurd h Bool.false_ne_true
    | _ => exact absurd h Bool.false_ne_true
  | .bm m a es => by
    intro c X Wx e F g tk h
    cases e with
    | Call fn xs ks p =>
      cases fn with
      | Attribute x n ap =>
        cases ks with
        | nil =>
          have h : (decide (n = m) && notSup x && (ap.endLine == p.line) && trE c a x && trM c m es xs) = true := h
          simp only [Bool.and_eq_true, decide_eq_true_eq] at h
          obtain ⟨⟨⟨⟨rfl, h1⟩, h2⟩, h3⟩, h4⟩ := h
          exact okMm es c X Wx n x xs ap p (ev C a) F g tk (okE a c X Wx x F g tk h3) h1 h2 h4
        | cons _ _ => exact absurd h Bool.false_ne_true
      | _ => exact absurd h Bool.false_ne_true
    | _ => exact absurd h Bool.false_ne_true
  | .p1 o a => by
    intro c X Wx e F g tk h
    have h : (match p1B c o e with
    | some x => trE c a x
    | none => false) = true := h
    split at h
    · rename_i x hx
      exact OkE.ofV g (p1_ok F g hx (okE a c X Wx x F g tk h)) (p1_pl hx)
    · exact absurd h Bool.false_ne_true
  | .lcomp elt tg src ifs own => by
    intro c X Wx e F g tk h
    cases e with
    | ListComp x gens scope p =>
      rcases gens with _ | ⟨⟨t, it, ifx, n⟩, _ | ⟨_, _⟩⟩
      · exact absurd h Bool.false_ne_true
      · have q := okLc elt tg src ifs own c X Wx x t it ifx scope n F g tk (okI src) (okT tg) (okF ifs) (okE elt) h
        obtain ⟨q0, q⟩ := q
        subst q0
        exact OkE.ofL g (PE.imp (pe_lc g.calm (by rw [g.N]; exact g.nd) q.1 q.2.2.1 q.2.2.2.2.1 q.2.2.2.2.2.1 q.2.2.2.2.2.2 (hs := fold_ok q.2.1)) fun σ H Q hQ => by
            refine e_lcomp g q.1 q.2.2.1 q.2.2.2.1.1 q.2.2.2.2.1 q.2.2.2.2.2.1 q.2.2.2.2.2.2 σ H Q ?_
            rw [q.2.2.2.1.2]
            exact hQ) rfl
      · exact absurd h Bool.false_ne_true
    | _ => exact absurd h Bool.false_ne_true
theorem okKs : ∀ m : Mes, OkKs G lvl C m
  | .nil => by
    intro c X Wx kws F g tk h
    cases kws with
    | nil => exact PK.imp pk_nil fun σ H Q ⟨ι, hh, ℓ, r, lr, p⟩ => p.ok r _ .nil
    | cons _ _ => exact absurd h Bool.false_ne_true
  | .cons e es => by
    intro c X Wx kws F g tk h
    cases kws with
    | nil => exact absurd h Bool.false_ne_true
    | cons k kws =>
      obtain ⟨n, x, q⟩ := k
      have h : (notStar x && trE c e x && trEs c es (kws.map (·.value))) = true := h
      simp only [Bool.and_eq_true] at h
      exact PK.imp (pk_cons (okE e c X Wx x F g tk h.1.2).v (okKs es c X Wx kws F g tk h.2)) fun σ H Q ⟨ι, hh, ℓ, r, lr, p⟩ => ⟨ι, hh, ℓ, r, lr, (Post.bind p).imp fun w h1 ι1 H1 s1 r1 p1 v hv => ⟨ι1, h1, ℓ, r1, lr.mono s1, p1.bind.imp fun ws h2 ι2 H2 s2 r2 p2 vs hvs => p2.ok r2 _ (.cons (hv.mono s2) hvs)⟩⟩
theorem okEs : ∀ m : Mes, OkMs G lvl C m
  | .nil => by
    intro c X Wx es F g tk h
    cases es with
    | nil => exact a_nil
    | cons _ _ => exact absurd h Bool.false_ne_true
  | .cons e es => by
    intro c X Wx xs F g tk h
    cases xs with
    | nil => exact absurd h Bool.false_ne_true
    | cons x xs =>
      have h : (notStar x && trE c e x && trEs c es xs) = true := h
      simp only [Bool.and_eq_true] at h
      exact a_cons (okE e c X Wx x F g tk h.1.2).v (okEs es c X Wx xs F g tk h.2) h.1.1
theorem okD : ∀ (m : Mks) (c : Ctx) (X : Cx) (Wx : WX) (ks : List (Option Expr)) (vs : List Expr), Fc G C lvl c.fs → Gx G lvl c X → Takes X Wx → trD c m ks vs = true →
    (∀ pos, PD X pos ks vs (tD G Wx (evd C m))) ∧ ks.all (·.isSome) = true ∧ ks.length = vs.length ∧ (m ≠ .nil → ks ≠ [])
  | .nil => by
    intro c X Wx ks vs F g tk h
    cases ks with
    | nil =>
      cases vs with
      | nil => exact ⟨fun _ => d_nil, rfl, rfl, fun z => absurd rfl z⟩
      | cons _ _ => exact absurd h Bool.false_ne_true
    | cons _ _ => exact absurd h Bool.false_ne_true
  | .cons k v r => by
    intro c X Wx ks vs F g tk h
    cases ks with
    | nil => exact absurd h Bool.false_ne_true
    | cons o ks =>
      cases vs with
      | nil => cases o <;> exact absurd h Bool.false_ne_true
      | cons y vs =>
        cases o with
        | none => exact absurd h Bool.false_ne_true
        | some x =>
          have h : (trE c k x && trE c v y && trD c r ks vs) = true := h
          simp only [Bool.and_eq_true] at h
          obtain ⟨q1, q2, q3, _⟩ := okD r c X Wx ks vs F g tk h.2
          exact ⟨fun pos => d_cons (okE k c X Wx x F g tk h.1.1).v (okE v c X Wx y F g tk h.1.2).v (q1 pos), by rw [List.all_cons, q2]; rfl, by rw [List.length_cons, List.length_cons, q3], fun _ z => nomatch z⟩
theorem okB : ∀ (m : Mes) (c : Ctx) (X : Cx) (Wx : WX) (xs : List Expr) (op : BoolOp) (pos : Pos), Fc G C lvl c.fs → Gx G lvl c X → Takes X Wx → trB c m xs = true →
    OkB G Wx X (evb C op m) (.BoolOp op xs pos) ∧ (evb C op m).e = false ∧ ∀ ℓ h, (evb C op m).l ℓ h = ((evb C op m).v ℓ h).bind fun w h => seqR h w
  | .nil => fun c X Wx xs op pos F g tk h => absurd h Bool.false_ne_true
  | .cons a .nil => fun c X Wx xs op pos F g tk h => absurd h Bool.false_ne_true
  | .cons a (.cons b .nil) => by
    intro c X Wx xs op pos F g tk h
    rcases xs with _ | ⟨x, _ | ⟨y, _ | ⟨_, _⟩⟩⟩ <;> first
      | exact absurd h Bool.false_ne_true
      | skip
    have h : (trE c a x && trE c b y) = true := h
    simp only [Bool.and_eq_true] at h
    exact ⟨b_more g (okE a c X Wx x F g tk h.1) (b_one (okE b c X Wx y F g tk h.2)), rfl, fun _ _ => rfl⟩
  | .cons a (.cons b (.cons d es)) => by
    intro c X Wx xs op pos F g tk h
    rcases xs with _ | ⟨x, _ | ⟨y, _ | ⟨z, xs⟩⟩⟩ <;> first
      | exact absurd h Bool.false_ne_true
      | skip
    have h : (trE c a x && trB c (.cons b (.cons d es)) (y :: z :: xs)) = true := h
    simp only [Bool.and_eq_true] at h
    obtain ⟨q1, q2, q3⟩ := okB (.cons b (.cons d es)) c X Wx (y :: z :: xs) op pos F g tk h.2
    exact ⟨b_more g (okE a c X Wx x F g tk h.1) q1, rfl, fun _ _ => rfl⟩
theorem okK : ∀ (m : Mes) (c : Ctx) (X : Cx) (Wx : WX) (f : Str) (xs : List Expr) (p pos : Pos), Fc G C lvl c.fs → Gx G lvl c X → Takes X Wx → glB c f = true → trK c f m xs = true → OkE G Wx X (evk C f m) (.Call (.Name f p) xs [] pos)
  | .nil => fun c X Wx f xs p pos F g tk hg h => absurd h Bool.false_ne_true
  | .cons a .nil => by
    intro c X Wx f xs p pos F g tk hg h
    rcases xs with _ | ⟨x, _ | ⟨_, _⟩⟩ <;> first
      | exact absurd h Bool.false_ne_true
      | skip
    have h : (notStar x && trE c a x && decide (f ∈ (["len", "repr", "list", "abs", "tuple", "all", "any", "sum"] : List Str))) = true := h
    simp only [Bool.and_eq_true, decide_eq_true_eq] at h
    obtain ⟨⟨h1, h2⟩, h3⟩ := h
    have ih := okE a c X Wx x F g tk h2
    simp only [List.mem_cons, List.not_mem_nil, or_false] at h3
    rcases h3 with rfl | rfl | rfl | rfl | rfl | rfl | rfl | rfl
    · exact OkE.ofV g (k_len F g hg h1 ih) rfl
    · exact OkE.ofV g (k_repr F g hg h1 ih) rfl
    · exact OkE.ofL g (k_list F g hg h1 ih) rfl
    · exact OkE.ofV g (k_abs F g hg h1 ih.v) rfl
    · exact OkE.ofV g (k_tuple F g hg h1 ih) rfl
    · exact OkE.ofV g (k_all F g hg h1 ih) rfl
    · exact OkE.ofV g (k_any F g hg h1 ih) rfl
    · exact OkE.ofV g (k_sum F g hg h1 ih) rfl
  | .cons a (.cons b .nil) => by
    intro c X Wx f xs p pos F g tk hg h
    rcases xs with _ | ⟨x, _ | ⟨y, _ | ⟨_, _⟩⟩⟩ <;> first
      | exact absurd h Bool.false_ne_true
      | skip
    have h : (notStar x && notStar y && trE c a x && trE c b y && decide (f ∈ (["max", "min"] : List Str))) = true := h
    simp only [Bool.and_eq_true, decide_eq_true_eq] at h
    obtain ⟨⟨⟨⟨h1, h2⟩, h3⟩, h4⟩, h5⟩ := h
    have iha := okE a c X Wx x F g tk h3
    have ihb := okE b c X Wx y F g tk h4
    simp only [List.mem_cons, List.not_mem_nil, or_false] at h5
    rcases h5 with rfl | rfl
    · exact OkE.ofV g (k_max F g hg h1 h2 iha.v ihb.v) rfl
    · exact OkE.ofV g (k_min F g hg h1 h2 iha.v ihb.v) rfl
  | .cons a (.cons b (.cons d es)) => fun c X Wx f xs p pos F g tk hg h => absurd h Bool.false_ne_true
theorem okMm : ∀ (m : Mes) (c : Ctx) (X : Cx) (Wx : WX) (f : Str) (x : Expr) (xs : List Expr) (ap pos : Pos) (sa : Sm), Fc G C lvl c.fs → Gx G lvl c X → Takes X Wx → OkE G Wx X sa x → notSup x = true → (ap.endLine == pos.line) = true → trM c f m xs = true → OkE G Wx X (evm C f sa m) (.Call (.Attribute x f ap) xs [] pos)
  | .nil => fun c X Wx f x xs p pos sa F g tk ha h1 h2 h => absurd h Bool.false_ne_true
  | .cons b .nil => by
    intro c X Wx f x xs p pos sa F g tk ha h1 h2 h
    rcases xs with _ | ⟨y, _ | ⟨_, _⟩⟩ <;> first
      | exact absurd h Bool.false_ne_true
      | skip
    have h : (notStar y && trE c b y && decide (f ∈ (["join", "append"] : List Str))) = true := h
    simp only [Bool.and_eq_true, decide_eq_true_eq] at h
    obtain ⟨⟨h3, h4⟩, h5⟩ := h
    have ih := okE b c X Wx y F g tk h4
    simp only [List.mem_cons, List.not_mem_nil, or_false] at h5
    rcases h5 with rfl | rfl
    · exact OkE.ofV g (k_join g ha.v ih h3 h1 h2) rfl
    · exact OkE.ofV g (k_append g ha.v ih.v h3 h1 h2) rfl
  | .cons b (.cons d es) => fun c X Wx f x xs p pos sa F g tk ha h1 h2 h => absurd h Bool.false_ne_true
theorem okO : ∀ (m : Mo) (c : Ctx) (X : Cx) (Wx : WX) (o : Option Expr), Fc G C lvl c.fs → Gx G lvl c X → Takes X Wx → trO c m o = true → PO X o (tP G Wx (evo C m))
  | .none => by
    intro c X Wx o F g tk h
    cases o with
    | none => exact o_none
    | some _ => exact absurd h Bool.false_ne_true
  | .some e => by
    intro c X Wx o F g tk h
    cases o with
    | none => exact absurd h Bool.false_ne_true
    | some x => exact o_some (okE e c X Wx x F g tk h).v
theorem okF : ∀ (m : Mo) (c : Ctx) (X : Cx) (Wx : WX) (o : List Expr), Fc G C lvl c.fs → Gx G lvl c X → Takes X Wx → trF c m o = true → PTs X o (tT G Wx (evf C m))
  | .none => by
    intro c X Wx o F g tk h
    cases o with
    | nil => exact ⟨fun pins s σ H Q I ⟨ι, hh, ℓ, r, lr, p⟩ => pts_nil.run pins s σ H Q I (p.ok r)⟩
    | cons _ _ => exact absurd h Bool.false_ne_true
  | .some e => by
    intro c X Wx o F g tk h
    rcases o with _ | ⟨x, _ | ⟨_, _⟩⟩
    · exact absurd h Bool.false_ne_true
    · exact pts_one (okE e c X Wx x F g tk h).t
    · exact absurd h Bool.false_ne_true
theorem okT : ∀ (m : Mt) (c : Ctx) (X : Cx) (Wx : WX) (e : Expr), Fc G C lvl c.fs → Gx G lvl c X → Takes X Wx → trT c m e = true → PG X e (tG G (slT m) (evt C m))
  | .name i => by
    intro c X Wx e F g tk h
    cases e with
    | Name x p =>
      have h : (decide (c.N[i]? = some x) && setB c x) = true := h
      simp only [Bool.and_eq_true, decide_eq_true_eq] at h
      exact g_name g h.1 h.2
    | _ => exact absurd h Bool.false_ne_true
  | .tup ts => by
    intro c X Wx e F g tk h
    cases e with
    | Tuple xs k p =>
      obtain ⟨q1, q2, q3⟩ := okTs ts c X Wx xs F g tk h
      exact g_tup g q2 q3 q1
    | _ => exact absurd h Bool.false_ne_true
  | .sub a i => by
    intro c X Wx e F g tk h
    cases e with
    | Subscript x y p =>
      have h : (notSlice y && trE c a x && trE c i y) = true := h
      simp only [Bool.and_eq_true] at h
      exact g_sub h.1.1 (okE a c X Wx x F g tk h.1.2).v (okE i c X Wx y F g tk h.2).v
    | _ => exact absurd h Bool.false_ne_true
theorem okTs : ∀ (m : Mts) (c : Ctx) (X : Cx) (Wx : WX) (es : List Expr), Fc G C lvl c.fs → Gx G lvl c X → Takes X Wx → trTs c m es = true →
    PGs X es (tGs G (slT.slTs m) (evts C m)) ∧ es.all notStar = true ∧ ∀ ws ℓ h, ws.length ≠ es.length → ∀ σ ι H kk, ¬ Post G WF σ ι H (evts C m ws ℓ h) kk
  | .nil => by
    intro c X Wx es F g tk h
    cases es with
    | nil =>
      refine ⟨gs_nil, rfl, fun ws ℓ h hl σ ι H kk p => ?_⟩
      cases ws with
      | nil => exact hl rfl
      | cons _ _ => exact p
    | cons _ _ => exact absurd h Bool.false_ne_true
  | .cons t ts => by
    intro c X Wx es F g tk h
    cases es with
    | nil => exact absurd h Bool.false_ne_true
    | cons x xs =>
      have h : (notStar x && trT c t x && trTs c ts xs) = true := h
      simp only [Bool.and_eq_true] at h
      obtain ⟨q1, q2, q3⟩ := okTs ts c X Wx xs F g tk h.2
      refine ⟨gs_cons h.1.1 (okT t c X Wx x F g tk h.1.2) q1, by rw [List.all_cons, h.1.1, q2]; rfl, fun ws ℓ hh hl σ ι H kk p => ?_⟩
      cases ws with
      | nil => exact p
      | cons w ws =>
        have p : Post G WF σ ι H ((noX (evt C t w ℓ hh)).bind fun ℓ h => evts C ts ws ℓ h) kk := p
        revert p
        cases evt C t w ℓ hh with
        | stuck => exact fun p => p
        | exc x h' => exact fun p => p
        | ok ℓ' h' => exact fun p => q3 ws ℓ' h' (by simpa using hl) σ ι H kk p
theorem okI : ∀ (m : Mi) (c : Ctx) (X : Cx) (Wx : WX) (t e : Expr), Fc G C lvl c.fs → Gx G lvl c X → Takes X Wx → trI c m t e = true → PI X t e (tI G Wx (evi C m))
  | .val a => fun c X Wx t e F g tk h => i_val g (okE a c X Wx e F g tk h)
  | .range .nil => fun c X Wx t e F g tk h => absurd h Bool.false_ne_true
  | .range (.cons a .nil) => by
    intro c X Wx t e F g tk h
    cases e with
    | Call fn xs ks p =>
      cases fn with
      | Name x q =>
        rcases xs with _ | ⟨y, _ | ⟨_, _⟩⟩ <;> cases ks <;> first
          | exact absurd h Bool.false_ne_true
          | skip
        have h : (decide (x = ("range" : Str)) && glB c x && notStar y && trE c a y) = true := h
        simp only [Bool.and_eq_true, decide_eq_true_eq] at h
        obtain ⟨⟨⟨rfl, h1⟩, h2⟩, h3⟩ := h
        exact i_range1 F g h1 h2 (okE a c X Wx y F g tk h3).v
      | _ => exact absurd h Bool.false_ne_true
    | _ => exact absurd h Bool.false_ne_true
  | .range (.cons a (.cons b .nil)) => by
    intro c X Wx t e F g tk h
    cases e with
    | Call fn xs ks p =>
      cases fn with
      | Name x q =>
        rcases xs with _ | ⟨y, _ | ⟨z, _ | ⟨_, _⟩⟩⟩ <;> cases ks <;> first
          | exact absurd h Bool.false_ne_true
          | skip
        have h : (decide (x = ("range" : Str)) && glB c x && notStar y && notStar z && trE c a y && trE c b z) = true := h
        simp only [Bool.and_eq_true, decide_eq_true_eq] at h
        obtain ⟨⟨⟨⟨⟨rfl, h1⟩, h2⟩, h3⟩, h4⟩, h5⟩ := h
        exact i_range2 F g h1 h2 h3 (okE a c X Wx y F g tk h4).v (okE b c X Wx z F g tk h5).v
      | _ => exact absurd h Bool.false_ne_true
    | _ => exact absurd h Bool.false_ne_true
  | .range (.cons a (.cons b (.cons d es))) => fun c X Wx t e F g tk h => absurd h Bool.false_ne_true
  | .zip a b => by
    intro c X Wx t e F g tk h
    cases t with
    | Tuple elts kk tpos =>
      cases e with
      | Call fn xs ks p =>
        cases fn with
        | Name x q =>
          rcases xs with _ | ⟨y, _ | ⟨z, _ | ⟨_, _⟩⟩⟩ <;> cases ks <;> first
            | exact absurd h Bool.false_ne_true
            | skip
          have h : (decide (x = ("zip" : Str)) && glB c x && notStar y && notStar z && trE c a y && trE c b z) = true := h
          simp only [Bool.and_eq_true, decide_eq_true_eq] at h
          obtain ⟨⟨⟨⟨⟨rfl, h1⟩, h2⟩, h3⟩, h4⟩, h5⟩ := h
          exact i_zip F g h1 h2 h3 (okE a c X Wx y F g tk h4) (okE b c X Wx z F g tk h5)
        | _ => exact absurd h Bool.false_ne_true
      | _ => exact absurd h Bool.false_ne_true
    | _ => exact absurd h Bool.false_ne_true
  | .enum a => by
    intro c X Wx t e F g tk h
    cases t with
    | Tuple elts kk tpos =>
      cases e with
      | Call fn xs ks p =>
        cases fn with
        | Name x q =>
          rcases xs with _ | ⟨y, _ | ⟨_, _⟩⟩ <;> cases ks <;> first
            | exact absurd h Bool.false_ne_true
            | skip
          have h : (decide (x = ("enumerate" : Str)) && glB c x && notStar y && trE c a y) = true := h
          simp only [Bool.and_eq_true, decide_eq_true_eq] at h
          obtain ⟨⟨⟨rfl, h1⟩, h2⟩, h3⟩ := h
          exact i_enum F g h1 h2 (okE a c X Wx y F g tk h3)
        | _ => exact absurd h Bool.false_ne_true
      | _ => exact absurd h Bool.false_ne_true
    | _ => exact absurd h Bool.false_ne_true
end
end
end MP
set_option maxRecDepth 100000
set_option maxHeartbeats 4000000
namespace MP
open PySem PySem.Spec PyProof.Rows L2

/-- a, b = x, y, stored from the right -/
def parB (c : Ctx) (i j : Nat) (ts vs : List Expr) : Bool := match ts, vs with
  | [.Name x px, .Name y py], [a, b] => decide (c.N[i]? = some x) && decide (c.N[j]? = some y) && decide (i ≠ j) && decide (c.names.lookup x = some .local) && decide (c.names.lookup y = some .local) && decide (x ≠ y) &&
    (px.line == py.line) && notStar a && notStar b && !([a, b].all (foldedForSure 8)) && !([a, b].all (constantsAlone 8))
  | _, _ => false
theorem par_ok {env : Env} {x y : Str} {px py pt pt2 : Pos} {kt k2 : Nat} {a b : Expr} (hk : env.scope.kind = .function) (hx : env.scope.names.lookup x = some .local) (hy : env.scope.names.lookup y = some .local) (hne : x ≠ y) (hl : (px.line == py.line) = true)
    (ha : notStar a = true) (hb : notStar b = true) (hf : [a, b].all (foldedForSure 8) = false) (hc : [a, b].all (constantsAlone 8) = false) :
    swappedStores [.Tuple [.Name x px, .Name y py] kt pt] (.Tuple [a, b] k2 pt2) env = pure (some [x, y]) := by
  have kb : env.blockKind = .function := by unfold Env.blockKind; rw [hk]; rfl
  have kx : env.kindOf x = some .local := hx
  have ky : env.kindOf y = some .local := hy
  have hl2 : py.line = px.line := (beq_iff_eq.mp hl).symm
  have hne2 : (x == y) = false := by rw [beq_eq_false_iff_ne]; exact hne
  have hne3 : (y == x) = false := by rw [beq_eq_false_iff_ne]; exact fun z => hne z.symm
  unfold swappedStores
  simp only [kb, kx, ky, hf, hc, hl2, Expr.pos, List.length_cons, List.length_nil, List.head?_cons, Option.map_some, Option.getD_some, List.filterMap_cons, List.filterMap_nil, beq_self_eq_true, Bool.and_true, if_true, Bool.false_eq_true, if_false]
  simp [List.eraseDups, hne2, hne3, List.eraseDupsBy, List.eraseDupsBy.loop]
  intro z
  rcases z with z | z
  · cases a <;> first | exact absurd ha Bool.false_ne_true | (cases z; done)
  · cases b <;> first | exact absurd hb Bool.false_ne_true | (cases z; done)
theorem par3_ok {env : Env} {x y z : Str} {px py pz pt pt2 : Pos} {kt k2 : Nat} {a b d : Expr} (hk : env.scope.kind = .function) (hx : env.scope.names.lookup x = some .local) (hy : env.scope.names.lookup y = some .local) (hz : env.scope.names.lookup z = some .local) (hxy : x ≠ y) (hxz : x ≠ z) (hyz : y ≠ z) (hl : (px.line == py.line) = true) (hl2 : (px.line == pz.line) = true)
    (ha : notStar a = true) (hb : notStar b = true) (hd : notStar d = true) (hf : [a, b, d].all (foldedForSure 8) = false) (hc : [a, b, d].all (constantsAlone 8) = false) :
    swappedStores [.Tuple [.Name x px, .Name y py, .Name z pz] kt pt] (.Tuple [a, b, d] k2 pt2) env = pure (some [x, y, z]) := by
  have kb : env.blockKind = .function := by unfold Env.blockKind; rw [hk]; rfl
  have kx : env.kindOf x = some .local := hx
  have ky : env.kindOf y = some .local := hy
  have kz : env.kindOf z = some .local := hz
  have e1 : py.line = px.line := (beq_iff_eq.mp hl).symm
  have e2 : pz.line = px.line := (beq_iff_eq.mp hl2).symm
  have n1 : (x == y) = false := by rw [beq_eq_false_iff_ne]; exact hxy
  have n2 : (y == x) = false := by rw [beq_eq_false_iff_ne]; exact hxy.symm
  have n3 : (x == z) = false := by rw [beq_eq_false_iff_ne]; exact hxz
  have n4 : (z == x) = false := by rw [beq_eq_false_iff_ne]; exact hxz.symm
  have n5 : (y == z) = false := by rw [beq_eq_false_iff_ne]; exact hyz
  have n6 : (z == y) = false := by rw [beq_eq_false_iff_ne]; exact hyz.symm
  unfold swappedStores
  simp only [kb, kx, ky, kz, hf, hc, e1, e2, Expr.pos, List.length_cons, List.length_nil, List.head?_cons, Option.map_some, Option.getD_some, List.filterMap_cons, List.filterMap_nil, beq_self_eq_true, Bool.and_true, if_true, Bool.false_eq_true, if_false]
  simp [List.eraseDups, n1, n2, n3, n4, n5, n6, List.eraseDupsBy, List.eraseDupsBy.loop]
  intro q
  rcases q with q | q | q
  · cases a <;> first | exact absurd ha Bool.false_ne_true | (cases q; done)
  · cases b <;> first | exact absurd hb Bool.false_ne_true | (cases q; done)
  · cases d <;> first | exact absurd hd Bool.false_ne_true | (cases q; done)
def par3B (c : Ctx) (i j l : Nat) (ts vs : List Expr) : Bool := match ts, vs with
  | [.Name x px, .Name y py, .Name z pz], [a, b, d] => decide (c.N[i]? = some x) && decide (c.N[j]? = some y) && decide (c.N[l]? = some z) && decide (i ≠ j) && decide (i ≠ l) && decide (j ≠ l) && decide (c.names.lookup x = some .local) && decide (c.names.lookup y = some .local) && decide (c.names.lookup z = some .local) &&
    decide (x ≠ y) && decide (x ≠ z) && decide (y ≠ z) && (px.line == py.line) && (px.line == pz.line) && notStar a && notStar b && notStar d && !([a, b, d].all (foldedForSure 8)) && !([a, b, d].all (constantsAlone 8))
  | _, _ => false
/-- a = [.. for ..] on one line -/
def lcB (c : Ctx) (i : Nat) (t e : Expr) : Bool := match t, e with
  | .Name y py, .ListComp _ _ scope p => decide (c.N[i]? = some y) && decide (c.names.lookup y = some .local) && (py.line == p.line) && !(scope.names.any fun (n, k) => n == y && (k == .local || k == .cell))
  | _, _ => false
def lcT (c : Ctx) : Mt → Me → Expr → Expr → Bool
  | .name i, .lcomp _ _ _ _ _, te, e => lcB c i te e
  | .name i, .frz (.lcomp _ _ _ _ _), te, e => lcB c i te e
  | _, _, _, _ => false
/-- names that are stored one after the other, from a tuple that is made -/
def stNone (c : Ctx) : Expr → Expr → Bool
  | .Tuple ts _ _, .Tuple vs _ _ => !(ts.length == 2 || ts.length == 3) || vs.all (foldedForSure 8) || ts.any (fun | .Name id _ => decide (c.names.lookup id ≠ some .local) | _ => true)
  | .List _ _, .Tuple _ _ _ => false
  | _, _ => true
theorem stNone_ok {c : Ctx} {te e : Expr} {env : Env} (hk : env.scope.kind = .function) (hn : env.scope.names = c.names) (h : stNone c te e = true) : swappedStores [te] e env = pure none := by
  unfold stNone at h
  split at h
  · rename_i ts kt pt vs kv pv
    have kb : env.blockKind = .function := by unfold Env.blockKind; rw [hk]; rfl
    unfold swappedStores
    dsimp only
    rw [kb]
    rw [Bool.or_eq_true, Bool.or_eq_true] at h
    split
    · rfl
    · rename_i c1
      split
      · rfl
      · split
        · rfl
        · rename_i c3
          split
          · rfl
          · rename_i c4
            exfalso
            rcases h with (h | h) | h
            · exact c1 (by rw [h]; rfl)
            · exact c4 h
            · rw [List.any_eq_true] at h
              obtain ⟨t, ht, hq⟩ := h
              apply c3
              rw [Bool.or_eq_true]
              left
              have key : ∀ (f : Expr → Option Str) (l : List Expr), t ∈ l → f t = none → (l.filterMap f).length < l.length := by
                intro f l
                induction l with
                | nil => intro a _; simp at a
                | cons y l ih =>
                  intro a b
                  rcases List.mem_cons.mp a with rfl | a
                  · rw [List.filterMap_cons, b, List.length_cons]
                    exact Nat.lt_succ_of_le (List.length_filterMap_le _ _)
                  · have := ih a b
                    rw [List.filterMap_cons, List.length_cons]
                    split
                    · omega
                    · rw [List.length_cons]; omega
              have hlt := key (fun
                | .Name id pos => if (env.kindOf id == some .local && pos.line == ((ts.head?.map (·.pos.line)).getD 0)) = true then some id else none
                | _ => none) ts ht (by
                cases t <;> first
                  | rfl
                  | skip
                rename_i id p
                have hq := of_decide_eq_true hq
                have : (env.kindOf id == some .local) = false := by
                  rw [beq_eq_false_iff_ne]
                  show env.scope.names.lookup id ≠ _
                  rw [hn]
                  exact hq
                show (if _ then _ else _) = _
                rw [this, Bool.false_and, if_neg Bool.false_ne_true])
              rw [bne_iff_ne]
              exact Nat.ne_of_lt hlt
  · exact absurd h Bool.false_ne_true
  · rename_i h1 h2
    cases te <;> cases e <;> first
      | rfl
      | exact (h1 _ _ _ _ _ _ rfl rfl).elim
      | exact (h2 _ _ _ _ _ rfl rfl).elim
def asgB (c : Ctx) (t : Mt) (te e : Expr) : Bool := notStar te && stNone c te e && (notComp e || notName te)
mutual
def trS (c : Ctx) : Ms → Stmt → Bool
  | .asg t m => fun s => match s with
    | .Assign [te] e _ => trE c m e && trT c t te && (asgB c t te e || lcT c t m te e)
    | _ => false
  | .par i j a b => fun s => match s with
    | .Assign [.Tuple ts _ _] (.Tuple [x, y] _ _) _ => parB c i j ts [x, y] && trE c a x && trE c b y
    | _ => false
  | .par3 i j l a b d => fun s => match s with
    | .Assign [.Tuple ts _ _] (.Tuple [x, y, z] _ _) _ => par3B c i j l ts [x, y, z] && trE c a x && trE c b y && trE c d z
    | _ => false
  | .expr m => fun s => match s with
    | .Expr e _ => notComp e && trE c m e
    | _ => false
  | .ret m => fun s => match s with
    | .Return (some e) _ => trE c m e
    | _ => false
  | .retN => fun s => match s with
    | .Return none _ => true
    | _ => false
  | .pass => fun s => match s with
    | .Pass _ => true
    | _ => false
  | .brk => fun s => match s with
    | .Break _ => true
    | _ => false
  | .cont => fun s => match s with
    | .Continue _ => true
    | _ => false
  | .ife m a b => fun s => match s with
    | .If e x y _ => trE c m e && trSs c a x && trSs c b y
    | _ => false
  | .for t m b => fun s => match s with
    | .For te e x [] _ => notSet e && trI c m te e && trT c t te && trSs c b x
    | _ => false
  | .while m b => fun s => match s with
    | .While e x [] _ => trE c m e && trSs c b x
    | _ => false
  | .raise cl f m => fun s => match s with
    | .Raise (some (.Call (.Name x _) [e] [] _)) none _ => decide (x = cl) && decide ((x, f) ∈ c.exs) && glB c x && debB x && notStar e && trE c m e
    | _ => false
  | .nev => fun _ => true
  | .sat a f m => fun s => match s with
    | .Assign [.Attribute x g _] e _ => decide (g = f) && trE c a x && trE c m e
    | _ => false
  | .try mb ds => fun s => match s with
    | .Try body hs [] [] _ => !ds.isEmpty && hdB c ds hs && trSs c mb body
    | _ => false
def trSs (c : Ctx) : Mss → List Stmt → Bool
  | .nil => fun ss => match ss with
    | [] => true
    | _ => false
  | .cons m .nil => fun ss => match ss with
    | [s] => trS c m s
    | _ => false
  | .cons m (.cons m2 ms) => fun ss => match ss with
    | s :: s2 :: ss => trS c m s && trSs c (.cons m2 ms) (s2 :: ss)
    | _ => false
end
section
variable {G : Pg} {lvl : Nat} {C : Cc}
mutual
theorem okS : ∀ (m : Ms) (c : Ctx) (X : Cx) (Wx : WX) (s : Stmt), Fc G C.cn lvl c.fs → Ec G C lvl c.exs c.cls → Sx G lvl c X Wx → trS c m s = true → PS X s (tSt G Wx (evS C m))
  | .asg t m => by
    intro c X Wx s F E S h
    cases s with
    | Assign ts e p =>
      rcases ts with _ | ⟨te, _ | ⟨_, _⟩⟩ <;> first
        | exact absurd h Bool.false_ne_true
        | skip
      have h : (trE c m e && trT c t te && (asgB c t te e || lcT c t m te e)) = true := h
      simp only [Bool.and_eq_true, Bool.or_eq_true] at h
      obtain ⟨⟨h1, h2⟩, h3⟩ := h
      rcases h3 with h3 | h3
      · unfold asgB at h3
        simp only [Bool.and_eq_true] at h3
        exact s_asg' (okE m c X Wx e F S.g S.tk h1).v (okT t c X Wx te F S.g S.tk h2) h3.2 (stNone_ok S.g.kd S.g.nm h3.1.2) h3.1.1
      · unfold lcT at h3
        split at h3
        · rename_i i elt tg src ifs own
          cases te <;> first
            | exact absurd h3 Bool.false_ne_true
            | skip
          cases e <;> first
            | exact absurd h3 Bool.false_ne_true
            | skip
          rename_i y py x gens scope pc
          have h3 : (decide (c.N[i]? = some y) && decide (c.names.lookup y = some .local) && (py.line == pc.line) && !(scope.names.any fun (n, k) => n == y && (k == .local || k == .cell))) = true := h3
          simp only [Bool.and_eq_true, decide_eq_true_eq, Bool.not_eq_true'] at h3
          obtain ⟨⟨⟨h4, h5⟩, h6⟩, h7⟩ := h3
          rcases gens with _ | ⟨⟨t', it, ifx, n⟩, _ | ⟨_, _⟩⟩
          · exact absurd h1 Bool.false_ne_true
          · have q := okLc elt tg src ifs own c X Wx x t' it ifx scope n F S.g S.tk (okI src) (okT tg) (okF ifs) (okE elt) h1
            obtain ⟨q0, q⟩ := q
            subst q0
            have z := s_setLc (Wx := Wx) (p := pc) (pos := p) S.g h4 h5 h6 h7 q.1 q.2.2.1 q.2.2.2.1.1 q.2.2.2.2.1 q.2.2.2.2.2.1 q.2.2.2.2.2.2 q.2.1
            rw [q.2.2.2.1.2] at z
            exact z
          · exact absurd h1 Bool.false_ne_true
        · rename_i i elt tg src ifs own
          cases te <;> first
            | exact absurd h3 Bool.false_ne_true
            | skip
          cases e <;> first
            | exact absurd h3 Bool.false_ne_true
            | skip
          rename_i y py x gens scope pc
          have h3 : (decide (c.N[i]? = some y) && decide (c.names.lookup y = some .local) && (py.line == pc.line) && !(scope.names.any fun (n, k) => n == y && (k == .local || k == .cell))) = true := h3
          simp only [Bool.and_eq_true, decide_eq_true_eq, Bool.not_eq_true'] at h3
          obtain ⟨⟨⟨h4, h5⟩, h6⟩, h7⟩ := h3
          rcases gens with _ | ⟨⟨t', it, ifx, n⟩, _ | ⟨_, _⟩⟩
          · exact absurd h1 Bool.false_ne_true
          · have hlc : trE c (.lcomp elt tg src ifs own) (.ListComp x [⟨t', it, ifx, n⟩] scope pc) = true := by
              have q : (isL (.lcomp elt tg src ifs own) && plT (.ListComp x [⟨t', it, ifx, n⟩] scope pc) && trE c (.lcomp elt tg src ifs own) (.ListComp x [⟨t', it, ifx, n⟩] scope pc)) = true := h1
              simp only [Bool.and_eq_true] at q
              exact q.2
            have q := okLc elt tg src ifs own c X Wx x t' it ifx scope n F S.g S.tk (okI src) (okT tg) (okF ifs) (okE elt) hlc
            obtain ⟨q0, q⟩ := q
            subst q0
            have z := s_setLcF (Wx := Wx) (p := pc) (pos := p) S.g h4 h5 h6 h7 q.1 q.2.2.1 q.2.2.2.1.1 q.2.2.2.2.1 q.2.2.2.2.2.1 q.2.2.2.2.2.2 q.2.1
            rw [q.2.2.2.1.2] at z
            exact z
          · exact absurd h1 Bool.false_ne_true
        · exact absurd h3 Bool.false_ne_true
    | _ => exact absurd h Bool.false_ne_true
  | .par i j a b => by
    intro c X Wx s F E S h
    cases s with
    | Assign ts e p =>
      rcases ts with _ | ⟨te, _ | ⟨_, _⟩⟩
      · exact absurd h Bool.false_ne_true
      · cases te <;> first
          | exact absurd h Bool.false_ne_true
          | skip
        cases e <;> first
          | exact absurd h Bool.false_ne_true
          | skip
        rename_i ts kt pt vs kv pv
        rcases vs with _ | ⟨x, _ | ⟨y, _ | ⟨_, _⟩⟩⟩ <;> first
          | exact absurd h Bool.false_ne_true
          | skip
        have h : (parB c i j ts [x, y] && trE c a x && trE c b y) = true := h
        simp only [Bool.and_eq_true] at h
        obtain ⟨⟨h1, h2⟩, h3⟩ := h
        unfold parB at h1
        split at h1
        · rename_i n1 p1 n2 p2 x' y' heq
          cases heq
          simp only [Bool.and_eq_true, decide_eq_true_eq, Bool.not_eq_true'] at h1
          obtain ⟨⟨⟨⟨⟨⟨⟨⟨⟨⟨b1, b2⟩, b3⟩, b4⟩, b5⟩, b6⟩, b7⟩, b8⟩, b9⟩, b10⟩, b11⟩ := h1
          exact s_par S.g b1 b2 b3 b4 b5 (okE a c X Wx x F S.g S.tk h2).v (okE b c X Wx y F S.g S.tk h3).v (by rw [List.all_cons, List.all_cons, b8, b9]; rfl) fun env hk hn => par_ok hk (by rw [hn]; exact b4) (by rw [hn]; exact b5) b6 b7 b8 b9 b10 b11
        · exact absurd h1 Bool.false_ne_true
      · cases te <;> exact absurd h Bool.false_ne_true
    | _ => exact absurd h Bool.false_ne_true
  | .par3 i j l a b d => by
    intro c X Wx s F E S h
    unfold trS at h
    split at h
    · rename_i ts kt pt x y z kv pv p
      simp only [Bool.and_eq_true] at h
      obtain ⟨⟨⟨h1, h2⟩, h3⟩, h4⟩ := h
      unfold par3B at h1
      split at h1
      · rename_i n1 p1 n2 p2 n3 p3 x' y' z' heq
        cases heq
        simp only [Bool.and_eq_true, decide_eq_true_eq, Bool.not_eq_true'] at h1
        obtain ⟨⟨⟨⟨⟨⟨⟨⟨⟨⟨⟨⟨⟨⟨⟨⟨⟨⟨b1, b2⟩, b3⟩, b4⟩, b5⟩, b6⟩, b7⟩, b8⟩, b9⟩, b10⟩, b11⟩, b12⟩, b13⟩, b14⟩, b15⟩, b16⟩, b17⟩, b18⟩, b19⟩ := h1
        exact s_par3 S.g b1 b2 b3 b4 b5 b6 b7 b8 b9 (okE a c X Wx _ F S.g S.tk h2).v (okE b c X Wx _ F S.g S.tk h3).v (okE d c X Wx _ F S.g S.tk h4).v (by rw [List.all_cons, List.all_cons, List.all_cons, b15, b16, b17]; rfl) fun env hk hn => par3_ok hk (by rw [hn]; exact b7) (by rw [hn]; exact b8) (by rw [hn]; exact b9) b10 b11 b12 b13 b14 b15 b16 b17 b18 b19
      · exact absurd h1 Bool.false_ne_true
    · exact absurd h Bool.false_ne_true
  | .expr m => by
    intro c X Wx s F E S h
    cases s with
    | Expr e p =>
      have h : (notComp e && trE c m e) = true := h
      simp only [Bool.and_eq_true] at h
      exact s_expr (okE m c X Wx e F S.g S.tk h.2).v h.1
    | _ => exact absurd h Bool.false_ne_true
  | .ret m => by
    intro c X Wx s F E S h
    cases s with
    | Return o p =>
      cases o with
      | none => exact absurd h Bool.false_ne_true
      | some e => exact s_ret (okE m c X Wx e F S.g S.tk h).v
    | _ => exact absurd h Bool.false_ne_true
  | .retN => by
    intro c X Wx s F E S h
    cases s with
    | Return o p =>
      cases o with
      | none => exact s_retN
      | some e => exact absurd h Bool.false_ne_true
    | _ => exact absurd h Bool.false_ne_true
  | .pass => by
    intro c X Wx s F E S h
    cases s with
    | Pass p => exact s_pass
    | _ => exact absurd h Bool.false_ne_true
  | .brk => by
    intro c X Wx s F E S h
    cases s with
    | Break p => exact s_brk
    | _ => exact absurd h Bool.false_ne_true
  | .cont => by
    intro c X Wx s F E S h
    cases s with
    | Continue p => exact s_cont
    | _ => exact absurd h Bool.false_ne_true
  | .ife m a b => by
    intro c X Wx s F E S h
    cases s with
    | If e x y p =>
      have h : (trE c m e && trSs c a x && trSs c b y) = true := h
      simp only [Bool.and_eq_true] at h
      exact s_if (okE m c X Wx e F S.g S.tk h.1.1).t (okSs a c X Wx x F E S h.1.2) (okSs b c X Wx y F E S h.2)
    | _ => exact absurd h Bool.false_ne_true
  | .for t m b => by
    intro c X Wx s F E S h
    cases s with
    | For te e x o p =>
      cases o with
      | nil =>
        have h : (notSet e && trI c m te e && trT c t te && trSs c b x) = true := h
        simp only [Bool.and_eq_true] at h
        exact s_for S (okI m c X Wx te e F S.g S.tk h.1.1.2) (okT t c X Wx te F S.g S.tk h.1.2) (okSs b c X Wx x F E S h.2) h.1.1.1
      | cons _ _ => exact absurd h Bool.false_ne_true
    | _ => exact absurd h Bool.false_ne_true
  | .while m b => by
    intro c X Wx s F E S h
    cases s with
    | While e x o p =>
      cases o with
      | nil =>
        have h : (trE c m e && trSs c b x) = true := h
        simp only [Bool.and_eq_true] at h
        exact s_while S (okE m c X Wx e F S.g S.tk h.1).t (okSs b c X Wx x F E S h.2)
      | cons _ _ => exact absurd h Bool.false_ne_true
    | _ => exact absurd h Bool.false_ne_true
  | .raise cl f m => by
    intro c X Wx s F E S h
    unfold trS at h
    split at h
    · simp only [Bool.and_eq_true, decide_eq_true_eq] at h
      obtain ⟨⟨⟨⟨⟨rfl, h2⟩, h3⟩, h4⟩, h5⟩, h6⟩ := h
      exact s_raise S E h2 h3 h4 (okE m c X Wx _ F S.g S.tk h6).v h5
    · exact absurd h Bool.false_ne_true
  | .nev => fun c X Wx s F E S h => ⟨fun pins s σ H D I ⟨ι, hh, ℓ, r, lr, p⟩ => False.elim p⟩
  | .sat a f m => by
    intro c X Wx s F E S h
    unfold trS at h
    split at h
    · simp only [Bool.and_eq_true, decide_eq_true_eq] at h
      obtain ⟨⟨rfl, h2⟩, h3⟩ := h
      exact s_sat F S.g (okE a c X Wx _ F S.g S.tk h2).v (okE m c X Wx _ F S.g S.tk h3).v
    · exact absurd h Bool.false_ne_true
  | .try mb ds => by
    intro c X Wx s F E S h
    unfold trS at h
    split at h
    · rename_i body hs pos
      simp only [Bool.and_eq_true, Bool.not_eq_true'] at h
      obtain ⟨⟨h1, h2⟩, h3⟩ := h
      exact s_tryM F S E (fun z => by rw [z] at h1; cases h1) h2 fun W pn xe tk ps => okSs mb c (X.tr pn xe) W body F E ⟨⟨S.g.prog, S.g.w, S.g.K, S.g.mg, S.g.base, S.g.N, S.g.nd, S.g.nm, S.g.kd, S.g.st, S.g.calm, S.g.room, S.g.gd⟩, tk, ps, S.stk, S.fr, S.sn⟩ h3
    · exact absurd h Bool.false_ne_true
theorem okSs : ∀ (m : Mss) (c : Ctx) (X : Cx) (Wx : WX) (ss : List Stmt), Fc G C.cn lvl c.fs → Ec G C lvl c.exs c.cls → Sx G lvl c X Wx → trSs c m ss = true → PSs X ss (tSt G Wx (evSs C m))
  | .nil => by
    intro c X Wx ss F E S h
    cases ss with
    | nil => exact s_nil
    | cons _ _ => exact absurd h Bool.false_ne_true
  | .cons m .nil => by
    intro c X Wx ss F E S h
    rcases ss with _ | ⟨s, _ | ⟨_, _⟩⟩
    · exact absurd h Bool.false_ne_true
    · exact s_one (okS m c X Wx s F E S h)
    · exact absurd h Bool.false_ne_true
  | .cons m (.cons m2 ms) => by
    intro c X Wx ss F E S h
    rcases ss with _ | ⟨s, _ | ⟨s2, ss⟩⟩
    · exact absurd h Bool.false_ne_true
    · exact absurd h Bool.false_ne_true
    · have h : (trS c m s && trSs c (.cons m2 ms) (s2 :: ss)) = true := h
      simp only [Bool.and_eq_true] at h
      exact s_cons (okS m c X Wx s F E S h.1) (okSs (.cons m2 ms) c X Wx (s2 :: ss) F E S h.2)
end
end
end MP
set_option maxRecDepth 100000
set_option maxHeartbeats 4000000
namespace MP
open PySem PySem.Spec PyProof.Rows L2
/-! ### the end of a call: what was made within and is handed out never changes from then on; the rest is forgotten -/
mutual
def dzW (n0 : Nat) (f : Nat → Option W) : W → Option W
  | .tup ws => (dzWs n0 f ws).map .tup
  | .slst ws => (dzWs n0 f ws).map .slst
  | .sdct kvs => (dzKs n0 f kvs).map .sdct
  | .ref n => if n < n0 then some (.ref n) else f n
  | .non => some .non
  | .bl b => some (.bl b)
  | .int i => some (.int i)
  | .str x => some (.str x)
def dzWs (n0 : Nat) (f : Nat → Option W) : List W → Option (List W)
  | [] => some []
  | w :: ws => (dzW n0 f w).bind fun w' => (dzWs n0 f ws).map (w' :: ·)
def dzKs (n0 : Nat) (f : Nat → Option W) : List (Key × W) → Option (List (Key × W))
  | [] => some []
  | (k, w) :: ws => (dzW n0 f w).bind fun w' => (dzKs n0 f ws).map ((k, w') :: ·)
end
def dzFs (n0 : Nat) (f : Nat → Option W) : List (Str × W) → Option (List (Str × W))
  | [] => some []
  | (k, w) :: ws => (dzW n0 f w).bind fun w' => (dzFs n0 f ws).map ((k, w') :: ·)
def dzR (h : List O) (n0 : Nat) : Nat → Nat → Option W
  | 0, _ => none
  | k + 1, n => match h[n]? with
    | some (.lst ws) => (dzWs n0 (dzR h n0 k) ws).map .slst
    | some (.dct kvs) => (dzKs n0 (dzR h n0 k) kvs).map .sdct
    | _ => none
abbrev dzNo : Nat → Option W := fun _ => none
def cleanO (n0 : Nat) : O → Prop
  | .lst ws => dzWs n0 dzNo ws = some ws
  | .dct kvs => dzKs n0 dzNo kvs = some kvs
  | .ins _ fs => dzFs n0 dzNo fs = some fs
def gcOk (h0 h' : List O) : Prop := h0.length ≤ h'.length ∧ ∀ (i : Nat) (o : O), i < h0.length → h'[i]? = some o → h0[i]? = some o ∨ cleanO h0.length o
abbrev gcDeep : Nat := 8
open Classical in
noncomputable def gcR (h0 : List O) (r : R W) : R W := match r with
  | .ok w h' => if gcOk h0 h' then (match dzW h0.length (dzR h' h0.length gcDeep) w with
    | some w' => .ok w' (h'.take h0.length)
    | none => .stuck) else .stuck
  | .exc x h' => if gcOk h0 h' then (match dzFs h0.length (dzR h' h0.length gcDeep) x.fs with
    | some fs => .exc ⟨x.cls, fs⟩ (h'.take h0.length)
    | none => .stuck) else .stuck
  | .stuck => .stuck
def LD (u : HO) : Prop := (∃ xs, u = .lst xs) ∨ ∃ m, u = .dK m
theorem LD.mu {u : HO} (h : LD u) : Mut (some u) := by
  rcases h with ⟨xs, rfl⟩ | ⟨m, rfl⟩ <;> trivial
theorem LD.nf {u : HO} (h : LD u) : ¬ Fixed u := by
  rcases h with ⟨xs, rfl⟩ | ⟨m, rfl⟩ <;> exact fun z => z
/-- some things of the heap are locked -/
def LkL : List Addr → (Hp → Prop) → Hp → Prop
  | [], P, H => P H
  | a :: as, P, H => ∃ u, H a = some u ∧ LD u ∧ ∀ od, LkL as P (upd H a (.frz od u))
def LkM (P : Hp → Prop) (H : Hp) : Prop := ∃ as, LkL as P H
def Frz (as : List Addr) (H H2 : Hp) : Prop := (∀ b, b ∉ as → H2 b = H b) ∧ ∀ a ∈ as, ∃ u od, H a = some u ∧ LD u ∧ H2 a = some (.frz od u)
theorem lkL_intro {P : Hp → Prop} : ∀ {as : List Addr} {H : Hp}, as.Nodup → (∀ a ∈ as, ∃ u, H a = some u ∧ LD u) → (∀ H2, Frz as H H2 → P H2) → LkL as P H
  | [], H, _, _, f => f H ⟨fun _ _ => rfl, fun _ h => nomatch h⟩
  | a :: as, H, nd, h, f => by
    obtain ⟨u, e, l⟩ := h a List.mem_cons_self
    have na : a ∉ as := (List.nodup_cons.mp nd).1
    have ne : ∀ b ∈ as, b ≠ a := fun b hb z => na (by rw [← z]; exact hb)
    refine ⟨u, e, l, fun od => lkL_intro (List.nodup_cons.mp nd).2 (fun b hb => ?_) fun H2 z => f H2 ⟨fun b hb => ?_, fun b hb => ?_⟩⟩
    · rw [upd_ne (ne b hb)]; exact h b (List.mem_cons_of_mem _ hb)
    · rw [z.1 b fun w => hb (List.mem_cons_of_mem _ w), upd_ne fun w => hb (by rw [w]; exact List.mem_cons_self)]
    · rcases List.mem_cons.mp hb with rfl | hb
      · exact ⟨u, od, e, l, by rw [z.1 _ na, upd_same]⟩
      · obtain ⟨u2, od2, e2, l2, e3⟩ := z.2 b hb
        rw [upd_ne (ne b hb)] at e2
        exact ⟨u2, od2, e2, l2, e3⟩
section
variable {X : Cx} {pins : List (Addr × Obj)} {σ : L2.St} {s : Shared}
theorem lkL_elim {P : Hp → Prop} : ∀ {as : List Addr} {H : Hp}, Inv X pins σ H s → LkL as P H → ∃ H2, Inv X pins σ H2 s ∧ (∀ a, H a = none → H2 a = none) ∧ P H2
  | [], H, I, h => ⟨H, I, fun _ z => z, h⟩
  | a :: as, H, I, ⟨u, e, l, f⟩ => by
    obtain ⟨od, I2⟩ := I.lock e l.mu
    obtain ⟨H2, I3, n, p⟩ := lkL_elim I2 (f od)
    exact ⟨H2, I3, fun b z => n b (by rw [upd_ne fun w => by rw [w, e] at z; cases z]; exact z), p⟩
theorem PSs.lockM {b : List Stmt} {t : TS} (h : PSs X b t) {Q : VK} {N : L2.St → Hp → Prop} : ∀ σ H, t { nx := fun σ H => LkM (N σ) H, rt := fun v H => LkM (Q v) H } σ H → ∀ pins s, Inv X pins σ H s → wpAny (model X.prog X.w) X.A (execs b X.env) (SP X pins { nx := N, rt := Q }) X.xe s := fun σ H q pins s I => by
  refine thn (h.run pins s σ H _ I q) fun f s' z => ?_
  cases f with
  | next =>
    obtain ⟨σ', H', J, ⟨as, q⟩⟩ := z
    obtain ⟨H2, J2, _, q2⟩ := lkL_elim J q
    exact ⟨σ', H2, J2, q2⟩
  | ret u =>
    obtain ⟨v, σ', H', J, r', ⟨as, q⟩⟩ := z
    obtain ⟨H2, J2, _, q2⟩ := lkL_elim J q
    exact ⟨v, σ', H2, J2, r', q2⟩
  | brk => exact False.elim z.choose_spec.choose_spec.2
  | cont => exact False.elim z.choose_spec.choose_spec.2
theorem takes_lk {E : XK} (tk : Takes X (fun cls d _ H => E cls d H)) : Takes X (fun cls d _ H => LkM (fun H => E cls d H) H) := fun u s' ⟨a, B, sI, pins, σ, H, cls, d, e, I, nb, up, sky, na, os, ag, ⟨as, w⟩⟩ => by
  obtain ⟨H2, I2, n, q⟩ := lkL_elim I w
  exact tk u s' ⟨a, B, sI, pins, σ, H2, cls, d, e, I2, nb, up, sky, n a na, os, ag, q⟩
end
section
variable {G : Pg} {ι ι' : List Addr} {H H' H2 : Hp} {h0 h' : List O}
mutual
theorem dz_old {f : Nat → Option W} {n0 : Nat} (hn : ι.length ≤ n0) : ∀ {w : W} {v : V}, VR G H ι w v → dzW n0 f w = some w
  | _, _, .non => rfl
  | _, _, .bl b => rfl
  | _, _, .int i => rfl
  | _, _, .str x => rfl
  | _, _, .tup h r => by rw [dzW, dzs_old hn r]; rfl
  | _, _, .slst h r => by rw [dzW, dzs_old hn r]; rfl
  | _, _, .sdct h r => by rw [dzW, dzk_old hn r]; rfl
  | _, _, .ref e => by rw [dzW, if_pos (Nat.lt_of_lt_of_le (List.getElem?_eq_some_iff.mp e).1 hn)]
theorem dzs_old {f : Nat → Option W} {n0 : Nat} (hn : ι.length ≤ n0) : ∀ {ws : List W} {vs : List V}, VRs G H ι ws vs → dzWs n0 f ws = some ws
  | _, _, .nil => rfl
  | _, _, .cons r t => by rw [dzWs, dz_old hn r, dzs_old hn t]; rfl
theorem dzk_old {f : Nat → Option W} {n0 : Nat} (hn : ι.length ≤ n0) : ∀ {ws : List (Key × W)} {vs : List (Key × V)}, VKs G H ι ws vs → dzKs n0 f ws = some ws
  | _, _, .nil => rfl
  | _, _, .cons r t => by rw [dzKs, dz_old hn r, dzk_old hn t]; rfl
end
theorem dzf_old {f : Nat → Option W} {n0 : Nat} (hn : ι.length ≤ n0) : ∀ {ws : List (Str × W)} {vs : List (Str × V)}, FR G H ι ws vs → dzFs n0 f ws = some ws
  | _, _, .nil => rfl
  | _, _, .cons r t => by rw [dzFs, dz_old hn r, dzf_old hn t]; rfl
/-- the way back to the small heap as it was -/
structure Bk (G : Pg) (ι ι' : List Addr) (H' H2 : Hp) (n0 : Nat) : Prop where
  low : ∀ n a, n < n0 → ι'[n]? = some a → ι[n]? = some a
  fix : ∀ a u, H' a = some u → Fixed u → H2 a = some u
theorem Bk.sqT {n0 : Nat} (b : Bk G ι ι' H' H2 n0) {a : Addr} {xs : List V} (h : SqT G.K H' a xs) : SqT G.K H2 a xs := by
  rcases h with (h | ⟨o, h⟩) | h
  · exact .inl (.inl (b.fix a _ h trivial))
  · exact .inl (.inr ⟨o, b.fix a _ h trivial⟩)
  · exact .inr h
theorem Bk.stL {n0 : Nat} (b : Bk G ι ι' H' H2 n0) {a : Addr} {xs : List V} (h : StL G.K H' a xs) : StL G.K H2 a xs := by
  rcases h with ⟨o, h⟩ | h
  · exact .inl ⟨o, b.fix a _ h trivial⟩
  · exact .inr h
mutual
theorem dz_ok {f : Nat → Option W} {n0 : Nat} (b : Bk G ι ι' H' H2 n0) (hf : ∀ n w' v, n0 ≤ n → f n = some w' → VR G H' ι' (.ref n) v → VR G H2 ι w' v) : ∀ {w w' : W} {v : V}, VR G H' ι' w v → dzW n0 f w = some w' → VR G H2 ι w' v
  | _, _, _, .non, e => by cases e; exact .non
  | _, _, _, .bl _, e => by cases e; exact .bl _
  | _, _, _, .int _, e => by cases e; exact .int _
  | _, _, _, .str _, e => by cases e; exact .str _
  | _, _, _, .tup h r, e => by
    rw [dzW, Option.map_eq_some_iff] at e
    obtain ⟨ws, e1, rfl⟩ := e
    exact .tup (b.sqT h) (dzs_ok b hf r e1)
  | _, _, _, .slst h r, e => by
    rw [dzW, Option.map_eq_some_iff] at e
    obtain ⟨ws, e1, rfl⟩ := e
    exact .slst (b.stL h) (dzs_ok b hf r e1)
  | _, _, _, .sdct h r, e => by
    rw [dzW, Option.map_eq_some_iff] at e
    obtain ⟨ws, e1, rfl⟩ := e
    exact .sdct (b.fix _ _ h trivial) (dzk_ok b hf r e1)
  | .ref n, _, _, .ref ea, e => by
    rw [dzW] at e
    split at e
    · cases e
      exact .ref (b.low _ _ (by assumption) ea)
    · exact hf n _ _ (by omega) e (.ref ea)
theorem dzs_ok {f : Nat → Option W} {n0 : Nat} (b : Bk G ι ι' H' H2 n0) (hf : ∀ n w' v, n0 ≤ n → f n = some w' → VR G H' ι' (.ref n) v → VR G H2 ι w' v) : ∀ {ws ws' : List W} {vs : List V}, VRs G H' ι' ws vs → dzWs n0 f ws = some ws' → VRs G H2 ι ws' vs
  | _, _, _, .nil, e => by cases e; exact .nil
  | _, _, _, .cons r t, e => by
    rw [dzWs, Option.bind_eq_some_iff] at e
    obtain ⟨w', e1, e⟩ := e
    rw [Option.map_eq_some_iff] at e
    obtain ⟨ws', e2, rfl⟩ := e
    exact .cons (dz_ok b hf r e1) (dzs_ok b hf t e2)
theorem dzk_ok {f : Nat → Option W} {n0 : Nat} (b : Bk G ι ι' H' H2 n0) (hf : ∀ n w' v, n0 ≤ n → f n = some w' → VR G H' ι' (.ref n) v → VR G H2 ι w' v) : ∀ {ws ws' : List (Key × W)} {vs : List (Key × V)}, VKs G H' ι' ws vs → dzKs n0 f ws = some ws' → VKs G H2 ι ws' vs
  | _, _, _, .nil, e => by cases e; exact .nil
  | _, _, _, .cons r t, e => by
    rw [dzKs, Option.bind_eq_some_iff] at e
    obtain ⟨w', e1, e⟩ := e
    rw [Option.map_eq_some_iff] at e
    obtain ⟨ws', e2, rfl⟩ := e
    exact .cons (dz_ok b hf r e1) (dzk_ok b hf t e2)
end
theorem dzf_ok {f : Nat → Option W} {n0 : Nat} (b : Bk G ι ι' H' H2 n0) (hf : ∀ n w' v, n0 ≤ n → f n = some w' → VR G H' ι' (.ref n) v → VR G H2 ι w' v) : ∀ {ws ws' : List (Str × W)} {vs : List (Str × V)}, FR G H' ι' ws vs → dzFs n0 f ws = some ws' → FR G H2 ι ws' vs
  | _, _, _, .nil, e => by cases e; exact .nil
  | _, _, _, .cons r t, e => by
    rw [dzFs, Option.bind_eq_some_iff] at e
    obtain ⟨w', e1, e⟩ := e
    rw [Option.map_eq_some_iff] at e
    obtain ⟨ws', e2, rfl⟩ := e
    exact .cons (dz_ok b hf r e1) (dzf_ok b hf t e2)
def isLDo : O → Bool
  | .lst _ => true
  | .dct _ => true
  | .ins _ _ => false
/-- what is locked at the end -/
def gcL (n0 : Nat) (h' : List O) (ι' : List Addr) : List Addr := (List.range h'.length).filterMap fun i => match h'[i]?, ι'[i]? with
  | some o, some a => if n0 ≤ i ∧ isLDo o = true then some a else none
  | _, _ => none
theorem gcL_mem {n0 : Nat} {a : Addr} : a ∈ gcL n0 h' ι' ↔ ∃ i o, n0 ≤ i ∧ h'[i]? = some o ∧ ι'[i]? = some a ∧ isLDo o = true := by
  unfold gcL
  rw [List.mem_filterMap]
  constructor
  · rintro ⟨i, hi, e⟩
    split at e
    · rename_i o b e1 e2
      split at e
      · rename_i z
        cases e
        exact ⟨i, o, z.1, e1, e2, z.2⟩
      · cases e
    · cases e
  · rintro ⟨i, o, h1, h2, h3, h4⟩
    refine ⟨i, List.mem_range.mpr (List.getElem?_eq_some_iff.mp h2).1, ?_⟩
    rw [h2, h3]
    dsimp only
    rw [if_pos ⟨h1, h4⟩]
theorem nodup_filterMap {α β : Type} {f : α → Option β} : ∀ {l : List α}, l.Nodup → (∀ x y b, x ∈ l → y ∈ l → f x = some b → f y = some b → x = y) → (l.filterMap f).Nodup
  | [], _, _ => List.nodup_nil
  | x :: l, nd, h => by
    rw [List.nodup_cons] at nd
    have ih := nodup_filterMap nd.2 fun a b c ha hb => h a b c (List.mem_cons_of_mem _ ha) (List.mem_cons_of_mem _ hb)
    rw [List.filterMap_cons]
    cases e : f x with
    | none => exact ih
    | some b =>
      refine List.nodup_cons.mpr ⟨fun hm => ?_, ih⟩
      obtain ⟨y, hy, ey⟩ := List.mem_filterMap.mp hm
      have := h x y b List.mem_cons_self (List.mem_cons_of_mem _ hy) e ey
      exact nd.1 (by rw [this]; exact hy)
theorem gcL_nd {n0 : Nat} (r : Rel G h' ι' H') : (gcL n0 h' ι').Nodup := by
  refine nodup_filterMap List.nodup_range fun i j b hi hj e1 e2 => ?_
  have q : ∀ {i : Nat}, (match h'[i]?, ι'[i]? with
    | some o, some a => if n0 ≤ i ∧ isLDo o = true then some a else none
    | _, _ => none) = some b → ι'[i]? = some b := fun {i} e => by
    split at e
    · split at e
      · cases e; assumption
      · cases e
    · cases e
  exact r.inj i j b (q e1) (q e2)
theorem OR.ld {a : Addr} {o : O} (q : OR G H ι a o) (e : isLDo o = true) : ∃ u, H a = some u ∧ LD u := by
  cases o with
  | lst ws => obtain ⟨vs, e, _⟩ := q; exact ⟨_, e, .inl ⟨_, rfl⟩⟩
  | dct kvs => obtain ⟨vs, e, _⟩ := q; exact ⟨_, e, .inr ⟨_, rfl⟩⟩
  | ins c fs => cases e
/-- behind a call -/
theorem gc_back (rel : Rel G h0 ι H) (s : Step ι H ι' H') (r : Rel G h' ι' H') (ok : gcOk h0 h') (z : Frz (gcL h0.length h' ι') H' H2) :
    Step ι H ι H2 ∧ Rel G (h'.take h0.length) ι H2 ∧ Bk G ι ι' H' H2 h0.length ∧ ∀ k n w' v, h0.length ≤ n → dzR h' h0.length k n = some w' → VR G H' ι' (.ref n) v → VR G H2 ι w' v := by
  obtain ⟨t, et, ht⟩ := s.ext
  have hl := rel.len
  have low : ∀ n a, n < h0.length → ι'[n]? = some a → ι[n]? = some a := fun n a hn e => by
    rw [et, List.getElem?_append_left (by omega)] at e
    exact e
  have inT : ∀ a, a ∈ gcL h0.length h' ι' → a ∈ t := fun a ha => by
    obtain ⟨i, o, h1, h2, h3, _⟩ := gcL_mem.mp ha
    rw [et, List.getElem?_append_right (by omega)] at h3
    exact List.mem_of_getElem? h3
  have nF : ∀ a u, H' a = some u → Fixed u → a ∉ gcL h0.length h' ι' := fun a u e f ha => by
    obtain ⟨u2, od, e2, l, _⟩ := z.2 a ha
    rw [e] at e2
    cases e2
    exact l.nf f
  have nI : ∀ n a, n < h0.length → ι'[n]? = some a → a ∉ gcL h0.length h' ι' := fun n a hn e ha => by
    obtain ⟨i, o, h1, h2, h3, _⟩ := gcL_mem.mp ha
    have := r.inj n i a e h3
    omega
  have bk : Bk G ι ι' H' H2 h0.length := ⟨low, fun a u e f => by rw [z.1 a (nF a u e f)]; exact e⟩
  have st : Step ι H ι H2 := by
    refine ⟨⟨[], by simp, fun _ h => nomatch h⟩, fun a o e na => ?_, fun a e => ?_, fun a u e f => bk.fix a u (s.fix a u e f) f⟩
    · rw [z.1 a fun ha => by rw [ht a (inT a ha)] at e; cases e]
      exact s.keep a o e na
    · by_cases ha : a ∈ gcL h0.length h' ι'
      · obtain ⟨_, _, _, _, e2⟩ := z.2 a ha
        rw [e2]; exact fun w => nomatch w
      · rw [z.1 a ha]; exact s.there a e
  refine ⟨st, ⟨by rw [List.length_take, hl]; have := ok.1; omega, fun n o a e ea => ?_, rel.inj, rel.pre, rel.sm.fix st.fix⟩, bk, ?_⟩
  · have hn : n < h0.length := by
      rw [← hl]; exact (List.getElem?_eq_some_iff.mp ea).1
    rw [List.getElem?_take_of_lt hn] at e
    have ea' : ι'[n]? = some a := by rw [et, List.getElem?_append_left (by omega)]; exact ea
    have q := r.obj n o a e ea'
    have eH : H2 a = H' a := z.1 a (nI n a hn ea')
    have no : ∀ n w' v, h0.length ≤ n → dzNo n = some w' → VR G H' ι' (.ref n) v → VR G H2 ι w' v := fun _ _ _ _ e _ => nomatch e
    rcases ok.2 n o hn e with e0 | cl
    · have q0 := rel.obj n o a e0 ea
      cases o with
      | lst ws =>
        obtain ⟨vs0, _, r0⟩ := q0
        obtain ⟨vs, h1, h2⟩ := q
        exact ⟨vs, eH.trans h1, dzs_ok bk no h2 (dzs_old (Nat.le_of_eq hl) r0)⟩
      | dct kvs =>
        obtain ⟨vs0, _, r0⟩ := q0
        obtain ⟨vs, h1, h2⟩ := q
        exact ⟨vs, eH.trans h1, (dzk_ok bk no h2.vk (dzk_old (Nat.le_of_eq hl) r0.vk)).fr⟩
      | ins c fs =>
        obtain ⟨_, _, vs0, _, _, r0⟩ := q0
        obtain ⟨C, dx, vs, h0, h1, h2⟩ := q
        exact ⟨C, dx, vs, h0, eH.trans h1, dzf_ok bk no h2 (dzf_old (Nat.le_of_eq hl) r0)⟩
    · cases o with
      | lst ws =>
        obtain ⟨vs, h1, h2⟩ := q
        exact ⟨vs, eH.trans h1, dzs_ok bk no h2 cl⟩
      | dct kvs =>
        obtain ⟨vs, h1, h2⟩ := q
        exact ⟨vs, eH.trans h1, (dzk_ok bk no h2.vk cl).fr⟩
      | ins c fs =>
        obtain ⟨C, dx, vs, h0, h1, h2⟩ := q
        exact ⟨C, dx, vs, h0, eH.trans h1, dzf_ok bk no h2 cl⟩
  · intro k
    induction k with
    | zero => exact fun n w' v _ e _ => nomatch e
    | succ k ih =>
      intro n w' v hn e hv
      cases hv with
      | ref ea =>
        unfold dzR at e
        split at e
        · rename_i ws eo
          rw [Option.map_eq_some_iff] at e
          obtain ⟨ws', e1, rfl⟩ := e
          obtain ⟨vs, h1, h2⟩ := r.obj n _ _ eo ea
          obtain ⟨u, od, e2, _, e3⟩ := z.2 _ (gcL_mem.mpr ⟨n, _, hn, eo, ea, rfl⟩)
          rw [h1] at e2
          cases e2
          exact .slst (.inl ⟨od, e3⟩) (dzs_ok bk ih h2 e1)
        · rename_i ws eo
          rw [Option.map_eq_some_iff] at e
          obtain ⟨ws', e1, rfl⟩ := e
          obtain ⟨vs, h1, h2⟩ := r.obj n _ _ eo ea
          obtain ⟨u, od, e2, _, e3⟩ := z.2 _ (gcL_mem.mpr ⟨n, _, hn, eo, ea, rfl⟩)
          rw [h1] at e2
          cases e2
          exact .sdct e3 (dzk_ok bk ih h2.vk e1)
        · cases e
end
noncomputable def gcF (b : Bool) (h0 : List O) (r : R W) : R W := match b with
  | true => gcR h0 r
  | false => r
def endF (r : RS) : R W := match r with
  | .ok (.rt w) _ h => .ok w h
  | .ok .nx _ h => .ok .non h
  | .exc x _ h => .exc x h
  | _ => .stuck
@[simp] theorem endF_rt (w : W) (ℓ : Lo) (h : List O) : endF (.ok (.rt w) ℓ h) = .ok w h := rfl
@[simp] theorem endF_nx (ℓ : Lo) (h : List O) : endF (.ok .nx ℓ h) = .ok .non h := rfl
@[simp] theorem endF_exc (x : Exn) (ℓ : Lo) (h : List O) : endF (.exc x ℓ h) = .exc x h := rfl
theorem gc_ok {G : Pg} {ι : List Addr} {H : Hp} {h0 : List O} {r : RS} {Q : VK} {E : XK} (rel : Rel G h0 ι H) (p : Post G (fun cls d _ H => E cls d H) [] ι H (gcR h0 (endF r)) (Wants Q G)) :
    PostS G (fun cls d _ H => LkM (fun H => E cls d H) H) ι H r (DK G { nx := fun _ H' => LkM (Q .non) H', rt := fun v H' => LkM (Q v) H' }) := by
  have val : ∀ {w : W} {h' : List O}, Post G (fun cls d _ H => E cls d H) [] ι H (gcR h0 (.ok w h')) (Wants Q G) → ∀ ι' H', Step ι H ι' H' → Rel G h' ι' H' → ∀ v, VR G H' ι' w v → LkM (Q v) H' := by
    intro w h' p ι' H' s q v hv
    unfold gcR at p
    dsimp only at p
    split at p
    · rename_i ok
      split at p
      · rename_i w' ew
        refine ⟨gcL h0.length h' ι', lkL_intro (gcL_nd q) (fun a ha => ?_) fun H2 z => ?_⟩
        · obtain ⟨i, o, _, h2, h3, h4⟩ := gcL_mem.mp ha
          exact (q.obj i o a h2 h3).ld h4
        · obtain ⟨s2, r2, bk, hf⟩ := gc_back rel s q ok z
          exact p ι H2 s2 r2 v (dz_ok bk (hf _) hv ew)
      · exact False.elim p
    · exact False.elim p
  cases r with
  | stuck => exact p
  | exc x ℓ h' =>
    intro ι' H' σ' cls d s q l xr
    unfold endF gcR at p
    dsimp only at p
    split at p
    · rename_i ok
      split at p
      · rename_i fs ew
        refine ⟨gcL h0.length h' ι', lkL_intro (gcL_nd q) (fun a ha => ?_) fun H2 z => ?_⟩
        · obtain ⟨i, o, _, h2, h3, h4⟩ := gcL_mem.mp ha
          exact (q.obj i o a h2 h3).ld h4
        · obtain ⟨s2, r2, bk, hf⟩ := gc_back rel s q ok z
          refine p ι H2 cls d s2 r2 ?_
          obtain ⟨C, c1, c2, c3⟩ := xr
          refine ⟨C, c1, c2, ?_⟩
          rcases c3 with ⟨e1, e2⟩ | ⟨dd, vs, e1, e2, e3, e4⟩
          · rw [e1] at ew
            cases ew
            exact .inl ⟨rfl, e2⟩
          · have nd : dd ∉ gcL h0.length h' ι' := fun hm => by
              obtain ⟨u, od, e5, l, _⟩ := z.2 _ hm
              rw [e2] at e5
              cases e5
              rcases l with ⟨_, l⟩ | ⟨_, l⟩ <;> cases l
            refine .inr ⟨dd, vs, e1, by rw [z.1 _ nd]; exact e2, dzf_ok bk (hf _) e3 ew, fun hm => e4 ?_⟩
            obtain ⟨t, et, _⟩ := s.ext
            rw [et]
            exact List.mem_append_left _ hm
      · exact False.elim p
    · exact False.elim p
  | ok f ℓ h' =>
    cases f with
    | nx => exact fun ι' H' σ' s q l => val p ι' H' s q .non .non
    | rt w => exact fun ι' H' σ' s q l v hv => val p ι' H' s q v hv
    | bk => exact False.elim p
    | ct => exact False.elim p
end MP
set_option maxRecDepth 100000
set_option maxHeartbeats 4000000
namespace MP
open PySem PySem.Spec PyProof.Rows L2

/-! ### defs -/
structure FD where
  ps : List Str
  N : List Str
  body : Mss
  gc : Bool := false
def startL (n : Nat) (ws : List W) : Lo := ws.map some ++ List.replicate (n - ws.length) none
noncomputable def runF (C : Cc) (d : FD) (ws : List W) (h : List O) : R W := if ws.length = d.ps.length then gcF d.gc h (endF (evSs C d.body (startL d.N.length ws) h)) else .stuck
/-- calls with keywords, classes and their members -/
structure Kx where
  frm : List ((Str × Nat × List Str) × List Ar) := []
  kn : List Str := []
  att : List (Str × Str) := []
  met : List ((Str × Str) × Str) := []
  prp : List ((Str × Str) × Str) := []
  sub : List ((Str × Str) × Bool) := []
  isn : List Str := []
  isk : List Str := []
  inn : List (Str × Str) := []
def cnOf (kx : Kx) (call ini : Str → List W → List O → R W) (gl : Str → Option W) (fuel : Nat) : Cn :=
  ⟨call, gl, fuel, ini, fun f n ks => kx.frm.lookup (f, n, ks), fun f => decide (f ∈ kx.kn), fun c f => decide ((c, f) ∈ kx.att), fun c m => kx.met.lookup (c, m), fun c m => kx.prp.lookup (c, m), fun c k => kx.sub.lookup (c, k), fun c => decide (c ∈ kx.isn), fun c => decide (c ∈ kx.isk), fun c => kx.inn.lookup c⟩
noncomputable def mkC (D : List (Str × FD)) (gl : Str → Option W) (isA : Str → Str → Option Bool) (exs : List (Str × Str)) (kx : Kx) (fuel : Nat) : Nat → Cc
  | 0 => ⟨cnOf kx (fun _ _ _ => .stuck) (fun _ _ _ => .stuck) gl fuel, isA, exs⟩
  | k + 1 => ⟨cnOf kx (fun f ws h => match D.lookup f with
    | some d => runF (mkC D gl isA exs kx fuel k) d ws h
    | none => .stuck) (mkC D gl isA exs kx fuel k).cn.call gl fuel, isA, exs⟩
/-- the text's own defs, exceptions with their fields, classes -/
structure Tx where
  fs : List Str
  exs : List (Str × Str) := []
  cls : List Str := []
def chkD (t : Tx) (st : Stmt) (d : FD) : Bool := C8.scC d.N d.ps (defScope st) && trSs ⟨d.N, (defScope st).names, (defScope st).names, t.fs, t.exs, t.cls⟩ d.body (defBody st)
structure DefOk (G : Pg) (t : Tx) (f : Str) (d : FD) : Prop where
  ex : ∃ st fa fd x, Fun G.K x x st fa fd ∧ G.mg f = some (.ref fa) ∧ Binds G.K fd d.ps [] ∧ chkD t st d = true
/-- what stands of a def -/
structure FunX (K : PySem.W.Frag) (x q : Str) (st : Stmt) (fa : Addr) (fd : FuncData) : Prop where
  ex : ∃ (oc : Value) (od : Option Addr) (dV kV doc pm : Value) (an : Option Addr) (cdv ct : Value) (osl : Array (Option Value)), fd = PySem.W.fnOf x q (defArgs st) (defBody st) (defScope st) dV kV doc pm an cdv ct ∧ K.lookup fa = some ⟨oc, od, .func fd, osl⟩ ∧ PySem.W.codeIn K cdv q = true
theorem Fun.toX {K : PySem.W.Frag} {x q : Str} {st : Stmt} {fa : Addr} {fd : FuncData} (F : Fun K x q st fa fd) : FunX K x q st fa fd := by
  obtain ⟨oc, od, kV, doc, pm, an, cdv, ct, osl, e, lk, hcd⟩ := F.ex
  exact ⟨oc, od, _, kV, doc, pm, an, cdv, ct, osl, e, lk, hcd⟩
theorem FunD.toX {K : PySem.W.Frag} {x q : Str} {st : Stmt} {dvs : List V} {kws : List (Str × V)} {fa : Addr} {fd : FuncData} (F : FunD K x q (defArgs st) (defBody st) (defScope st) dvs kws fa fd) : FunX K x q st fa fd := by
  obtain ⟨oc, od, dV, kV, doc, pm, an, cdv, ct, osl, e, lk, hcd, _, _⟩ := F.ex
  exact ⟨oc, od, dV, kV, doc, pm, an, cdv, ct, osl, e, lk, hcd⟩
/-- a def that is called so: f is its full name -/
structure MetOk (G : Pg) (t : Tx) (f : Str) (d : FD) (n : Nat) (ks : List Str) (ar : List Ar) : Prop where
  ex : ∃ st fa fd x q, FunX G.K x q st fa fd ∧ PySem.W.keepIn G.K (.ref fa) = true ∧ G.adr f = some fa ∧ Frm G fd d.ps n ks ar ∧ chkD t st d = true
section
variable {G : Pg}
theorem lr_start {H : Hp} {ι : List Addr} {N : List Str} {ws : List W} {vs : List V} (hv : VRs G H ι ws vs) : LR G H ι (startL N.length ws) (L2.start N vs) := by
  have hl := hv.length
  refine ⟨by unfold startL L2.start; simp [hl], fun i w e => ?_⟩
  unfold getL startL at e
  by_cases hi : i < ws.length
  · rw [List.getElem?_append_left (by simpa using hi), List.getElem?_map, List.getElem?_eq_getElem hi] at e
    dsimp only [Option.map_some] at e
    cases e
    obtain ⟨v, h1, h2⟩ := hv.get (i := i) (w := ws[i]) (by simp [hi])
    refine ⟨v, ?_, h2⟩
    unfold L2.start
    rw [List.getElem?_append_left (by rw [List.length_map]; omega), List.getElem?_map, h1]
    rfl
  · rw [List.getElem?_append_right (by simpa using hi), List.getElem?_replicate] at e
    split at e
    · rename_i z
      split at z <;> cases z
    · cases e
theorem end_ok {C : Cc} {ι : List Addr} {H : Hp} {r : RS} {Q : VK} {E : XK} (p : Post G (fun cls d _ H => E cls d H) [] ι H (endF r) (Wants Q G)) : PostS G (fun cls d _ H => E cls d H) ι H r (DK G { nx := fun _ H' => Q .non H', rt := Q }) := by
  cases r with
  | stuck => exact p
  | exc x ℓ h => exact fun ι' H' σ' cls d s q l x => p ι' H' cls d s q x
  | ok f ℓ h =>
    cases f with
    | nx => exact fun ι' H' σ' s q l => p ι' H' s q _ .non
    | rt w => exact fun ι' H' σ' s q l => p ι' H' s q
    | bk => exact False.elim p
    | ct => exact False.elim p
/-- a def keeps its promise: what its tree says -/
theorem def_ok {C : Cc} {k : Nat} {t : Tx} {x f : Str} {d : FD} {st : Stmt} {fa : Addr} {fd : FuncData} (Fn : FunX G.K x f st fa fd) (hc : chkD t st d = true) (F : Fc G C.cn k t.fs) (E : Ec G C k t.exs t.cls) : FnG G (k + 1) fa fd d.ps (spI G (runF C d) d.ps.length) := by
  unfold chkD at hc
  rw [Bool.and_eq_true] at hc
  obtain ⟨hS, hT⟩ := hc
  have S := C8.fnScope_by hS
  obtain ⟨oc, od, dV, kV, doc, pm, an, cdv, ct, osl, rfl, lk, hcd⟩ := Fn.ex
  refine ⟨fun vs H Q E q => q.1, fun A outer s H args us vs Q Ex room gd e0 hb rv ⟨hlen, ι, h, ws, rel, hv, post⟩ => ?_⟩
  have inK : G.K.In s.heap := e0.mod.kin.keeps fun b o e => (e0.bs b o e).1
  have noLim : s.heap.NoLimit := e0.mod.nolimit.keeps fun b o e => (e0.bs b o e).1
  have kinds : ∀ y ∈ d.ps.zip us, (defScope st).names.lookup y.1 = some .local ∨ ((defScope st).names.lookup y.1 = some .cell ∧ ((cellsFrom (s.heap.objs.size + 1) (defScope st).names []).lookup y.1).isSome = true) := by
    rintro ⟨n, v⟩ hy
    exact (S.par n (List.of_mem_zip hy).1).imp id fun q => ⟨q, PySem.W.cellsFrom_some _ _ _ (.inl q)⟩
  refine codeAny_call_function room.depth (inK _ _ lk) rfl S.co S.gen rfl (PySem.W.codeRec_of inK hcd) (hb _ _ _ _ ?_)
  refine wpAny_newFunctionEnv_cells S.kind kinds fun env he s1 x => ?_
  subst he
  refine ⟨noLim.keeps x.toInCall.keep, codeAny_func ?_⟩
  have inv := inv_start (CX := L2.CX G.P G.w) (E := Ex) S room.hd e0 hlen rv x
  have gx : Gx G k ⟨d.N, (defScope st).names, (defScope st).names, t.fs, t.exs, t.cls⟩ (cxOf (L2.CX G.P G.w) G.P G.w G.K G.mg G.base d.N f (defScope st) fa cdv A outer s H Ex) :=
    ⟨rfl, rfl, rfl, rfl, rfl, rfl, S.nd, rfl, S.kind, fun x hx => ⟨hx, .inl rfl⟩, rfl, room.deeper _, gd⟩
  have tk0 : Takes (cxOf (L2.CX G.P G.w) G.P G.w G.K G.mg G.base d.N f (defScope st) fa cdv A outer s H Ex) (fun cls d _ H => Ex cls d H) := takes_of rfl rfl rfl rfl
  have hwl : ws.length = d.ps.length := hv.length.trans hlen
  unfold runF at post
  rw [if_pos hwl] at post
  have run : wpAny (model G.P G.w) (A.deeper (envOfC f (defScope st) s.heap.objs.size fa cdv)) (execs (defBody st) (cxOf (L2.CX G.P G.w) G.P G.w G.K G.mg G.base d.N f (defScope st) fa cdv A outer s H Ex).env)
      (SP (cxOf (L2.CX G.P G.w) G.P G.w G.K G.mg G.base d.N f (defScope st) fa cdv A outer s H Ex) [] { nx := fun _ H' => Q .non H', rt := Q }) (cxOf (L2.CX G.P G.w) G.P G.w G.K G.mg G.base d.N f (defScope st) fa cdv A outer s H Ex).xe s1 := by
    cases hgc : d.gc with
    | false =>
      rw [hgc] at post
      have sx : Sx G k ⟨d.N, (defScope st).names, (defScope st).names, t.fs, t.exs, t.cls⟩ (cxOf (L2.CX G.P G.w) G.P G.w G.K G.mg G.base d.N f (defScope st) fa cdv A outer s H Ex) (fun cls d _ H => Ex cls d H) :=
        ⟨gx, tk0, passes_of rfl, rfl, rfl, rfl⟩
      have body := okSs (C := C) d.body _ _ _ _ F E sx hT
      exact body.run [] s1 (L2.start d.N vs) H { nx := fun _ H' => Q .non H', rt := Q } inv ⟨ι, h, _, rel, lr_start hv, end_ok (C := C) post⟩
    | true =>
      rw [hgc] at post
      have sx : Sx G k ⟨d.N, (defScope st).names, (defScope st).names, t.fs, t.exs, t.cls⟩ (cxOf (L2.CX G.P G.w) G.P G.w G.K G.mg G.base d.N f (defScope st) fa cdv A outer s H Ex) (fun cls d _ H => LkM (fun H => Ex cls d H) H) :=
        ⟨gx, takes_lk tk0, passes_of rfl, rfl, rfl, rfl⟩
      have body := okSs (C := C) d.body _ _ _ _ F E sx hT
      exact MP.PSs.lockM body (Q := Q) (N := fun _ H' => Q .non H') (L2.start d.N vs) H ⟨ι, h, _, rel, lr_start hv, gc_ok rel post⟩ [] s1 inv
  refine wpAny_mono run (fun fl s' hs => ?_) fun e s' hs => hs
  cases fl with
  | ret u =>
    obtain ⟨v, σ', H', J, r', q⟩ := hs
    exact ⟨v, H', J.os, J.bare, J.base, J.hok, r', q⟩
  | next =>
    obtain ⟨σ', H', J, q⟩ := hs
    exact ⟨.non, H', J.os, J.bare, J.base, J.hok, rfl, q⟩
  | brk => exact False.elim hs.choose_spec.choose_spec.2
  | cont => exact False.elim hs.choose_spec.choose_spec.2
theorem mem_of_lookup {D : List (Str × FD)} {f : Str} {d : FD} : D.lookup f = some d → (f, d) ∈ D := by
  induction D with
  | nil => intro h; simp at h
  | cons p D ih =>
    obtain ⟨g, d'⟩ := p
    intro h
    rw [List.lookup_cons] at h
    cases hb : f == g with
    | true =>
      rw [hb] at h
      cases h
      have := beq_iff_eq.mp hb
      subst this
      exact List.mem_cons_self
    | false =>
      rw [hb] at h
      exact List.mem_cons_of_mem _ (ih h)
theorem lookup_of {D : List (Str × FD)} {f : Str} (h : f ∈ D.map (·.1)) : ∃ d, D.lookup f = some d := by
  induction D with
  | nil => simp at h
  | cons p D ih =>
    obtain ⟨g, d'⟩ := p
    rw [List.lookup_cons]
    cases hb : f == g with
    | true => exact ⟨d', rfl⟩
    | false =>
      rw [List.map_cons] at h
      rcases List.mem_cons.mp h with h | h
      · rw [h] at hb; simp at hb
      · exact ih h
/-- what the classes and the calls with keywords lean on -/
structure KxOk (G : Pg) (t : Tx) (D : List (Str × FD)) (kx : Kx) : Prop where
  frm : ∀ p ∈ kx.frm, ∃ d, D.lookup p.1.1 = some d ∧ MetOk G t p.1.1 d p.1.2.1 p.1.2.2 p.2
  knm : ∀ f ∈ kx.kn, ∃ fa, G.adr f = some fa ∧ G.mg f = some (.ref fa) ∧ PySem.W.keepIn G.K (.ref fa) = true
  att : ∀ p ∈ kx.att, ∀ Ca, G.cls p.1 = some Ca → Cls G.K Ca ∧ NoAttr G.K Ca p.2
  met : ∀ p ∈ kx.met, ∀ Ca, G.cls p.1.1 = some Ca → ∃ fa, G.adr p.2 = some fa ∧ Cls G.K Ca ∧ Meth G.K Ca p.1.2 fa
  isn : ∀ c ∈ kx.isn, ∀ Ca, G.cls c = some Ca → InsC G.K Ca
  isk : ∀ c ∈ kx.isk, ∃ Ca, G.cls c = some Ca ∧ G.mg c = some (.ref Ca) ∧ ∀ t ∈ ["NoneType", "bool", "int", "str", "tuple", "list", "dict"], PySem.W.kitOne G.K (.type t) (.ref Ca) = some false
  sub : ∀ p ∈ kx.sub, ∀ Ca Ka, G.cls p.1.1 = some Ca → G.cls p.1.2 = some Ka → InsC G.K Ca ∧ PySem.W.kitOne G.K (.ref Ca) (.ref Ka) = some p.2
  prp : ∀ p ∈ kx.prp, ∀ Ca, G.cls p.1.1 = some Ca → ∃ fa q, G.adr p.2 = some fa ∧ Cls G.K Ca ∧ PropOf G.K Ca p.1.2 q fa
  inn : ∀ p ∈ kx.inn, ∃ Ca fa, G.cls p.1 = some Ca ∧ G.mg p.1 = some (.ref Ca) ∧ G.adr p.2 = some fa ∧ Mk G.K Ca fa
theorem memK {κ α : Type} [BEq κ] [LawfulBEq κ] {l : List (κ × α)} {k : κ} {a : α} (h : l.lookup k = some a) : (k, a) ∈ l := by
  induction l with
  | nil => simp at h
  | cons p l ih =>
    obtain ⟨j, c⟩ := p
    rw [List.lookup_cons] at h
    cases hb : k == j with
    | true =>
      rw [hb] at h
      cases h
      rw [beq_iff_eq.mp hb]
      exact List.mem_cons_self
    | false =>
      rw [hb] at h
      exact List.mem_cons_of_mem _ (ih h)
theorem kx_ok {t : Tx} {D : List (Str × FD)} {kx : Kx} {fs : List Str} {lvl : Nat} {call ini : Str → List W → List O → R W} {gl : Str → Option W} {fuel : Nat} (hk : KxOk G t D kx) (hb : ∀ x ∈ bltNames, G.mg x = none) (hg : ∀ x w, gl x = some w → ∃ u v, G.mg x = some u ∧ RelV v u ∧ ∀ ι H, (∃ r, ι = G.i0 ++ r) → VR G H ι w v)
    (h1 : ∀ f n ks ar, kx.frm.lookup (f, n, ks) = some ar → Tgt G lvl (call f) f n ks ar) (h2 : ∀ f n ks ar, kx.frm.lookup (f, n, ks) = some ar → ∃ l, l + 1 ≤ lvl ∧ Tgt G l (ini f) f n ks ar)
    (h3 : ∀ f ∈ fs, ∃ fa fd ps, G.mg f = some (.ref fa) ∧ PySem.W.keepIn G.K (.ref fa) = true ∧ Binds G.K fd ps [] ∧ FnG G lvl fa fd ps (spI G (call f) ps.length) ∧ ∀ ws h, ws.length ≠ ps.length → call f ws h = .stuck) :
    Fc G (cnOf kx call ini gl fuel) lvl fs :=
  ⟨h1, h2, fun f hf => hk.knm f (of_decide_eq_true hf), fun c f hf => hk.att (c, f) (of_decide_eq_true hf), fun c m g hg => hk.met _ (memK hg), fun c h => hk.isn c (of_decide_eq_true h), fun c h => hk.isk c (of_decide_eq_true h), fun c k b hb => hk.sub _ (memK hb), fun c m g hg => hk.prp _ (memK hg), fun c g hg => hk.inn _ (memK hg), hb, hg, h3⟩
theorem fc_all {D : List (Str × FD)} {gl : Str → Option W} {isA : Str → Str → Option Bool} {exs : List (Str × Str)} {kx : Kx} {cls : List Str} {fs : List Str} {fuel : Nat} (hb : ∀ x ∈ bltNames, G.mg x = none) (hg : ∀ x w, gl x = some w → ∃ u v, G.mg x = some u ∧ RelV v u ∧ ∀ ι H, (∃ r, ι = G.i0 ++ r) → VR G H ι w v)
    (hE : ∀ k, Ec G (mkC D gl isA exs kx fuel k) (k + 3) exs cls) (hK : KxOk G ⟨fs, exs, cls⟩ D kx) (hD : ∀ f ∈ fs, ∃ d, D.lookup f = some d ∧ DefOk G ⟨fs, exs, cls⟩ f d) : ∀ k, Fc G (mkC D gl isA exs kx fuel k).cn (k + 3) fs
  | 0 => by
    have tg : ∀ (l : Nat) f n ks ar, kx.frm.lookup (f, n, ks) = some ar → Tgt G l (fun _ _ => R.stuck) f n ks ar := fun l f n ks ar e => by
      obtain ⟨d, _, st, fa, fd, x, q, h1, h2, h3, h4, h5⟩ := hK.frm _ (memK e)
      exact ⟨fa, fd, d.ps, h3, h2, h4, ⟨fun vs H Q E q => q.1, fun A outer s H args us vs Q E room gd e0 hb rv ⟨hlen, ι, h, ws, rel, hv, post⟩ => False.elim post⟩, fun _ _ _ => rfl⟩
    refine kx_ok hK hb hg (tg _) (fun f n ks ar e => ⟨0, by omega, tg 0 f n ks ar e⟩) fun f hf => ?_
    obtain ⟨d, hd, st, fa, fd, x, h1, h2, h3, h4⟩ := hD f hf
    exact ⟨fa, fd, d.ps, h2, h1.kp, h3, ⟨fun vs H Q E q => q.1, fun A outer s H args us vs Q E room gd e0 hb rv ⟨hlen, ι, h, ws, rel, hv, post⟩ => False.elim post⟩, fun _ _ _ => rfl⟩
  | k + 1 => by
    have ih := fc_all hb hg hE hK hD k
    have ec : ∀ f d, D.lookup f = some d → (mkC D gl isA exs kx fuel (k + 1)).cn.call f = runF (mkC D gl isA exs kx fuel k) d := fun f d hd => by
      funext ws h
      show (match D.lookup f with
        | some d => runF (mkC D gl isA exs kx fuel k) d ws h
        | none => .stuck) = _
      rw [hd]
    have tg : ∀ f n ks ar, kx.frm.lookup (f, n, ks) = some ar → Tgt G (k + 1 + 3) ((mkC D gl isA exs kx fuel (k + 1)).cn.call f) f n ks ar := fun f n ks ar e => by
      obtain ⟨d, hd, st, fa, fd, x, q, h1, h2, h3, h4, h5⟩ := hK.frm _ (memK e)
      rw [ec f d hd]
      refine ⟨fa, fd, d.ps, h3, h2, h4, def_ok h1 h5 ih (hE k), fun ws h hl => ?_⟩
      unfold runF
      rw [if_neg hl]
    refine kx_ok hK hb hg tg (fun f n ks ar e => ⟨k + 3, by omega, ih.frm f n ks ar (by cases k <;> exact e)⟩) fun f hf => ?_
    obtain ⟨d, hd, st, fa, fd, x, h1, h2, h3, h4⟩ := hD f hf
    refine ⟨fa, fd, d.ps, h2, h1.kp, h3, ?_, fun ws h hl => ?_⟩
    · show FnG G _ fa fd d.ps (spI G ((mkC D gl isA exs kx fuel (k + 1)).cn.call f) d.ps.length)
      rw [ec f d hd]
      exact def_ok (Fun.toX h1) h4 ih (hE k)
    · show (mkC D gl isA exs kx fuel (k + 1)).cn.call f ws h = _
      rw [ec f d hd]
      unfold runF
      rw [if_neg hl]

/-! ### the law's call -/
/-- what may be tracked at the start: the script and the table of modules, unless the module's own -/
def hScr (K : PySem.W.Frag) (a : Addr) (o q : Obj) (xs : List V) : Hp := fun b => if b = a ∧ K.lookup a = none then some (.frz o (.lst xs)) else if b = sysModules ∧ K.lookup sysModules = none then some (.frz q (.own sysModules)) else none
theorem hScr_at {K : PySem.W.Frag} {a b : Addr} {o q : Obj} {xs : List V} {u : HO} (h : hScr K a o q xs b = some u) : (b = a ∧ K.lookup a = none ∧ u = .frz o (.lst xs)) ∨ (b = sysModules ∧ K.lookup sysModules = none ∧ u = .frz q (.own sysModules)) := by
  unfold hScr at h
  split at h
  · rename_i z
    cases h
    exact .inl ⟨z.1, z.2, rfl⟩
  · split at h
    · rename_i z
      cases h
      exact .inr ⟨z.1, z.2, rfl⟩
    · cases h
theorem law_callG {P : Program} {w : World} {K : PySem.W.Frag} {mg mb : Str → Option Value} {k : Nat} {fa a : Addr} {fd : FuncData} {x : Str} {m : List W → List O → R W} {s₁ : Shared} {vs : List Value} {ns : List Int}
    (KX : K.In s₁.heap) (hns : s₁.heap.Ns mainGlobals mg) (hb : s₁.heap.Ns builtinsNs mb) (hbb : ∀ x : Str, x ≠ "__name__" → mb x = bootBuiltins x) (hlim : s₁.heap.NoLimit) (hsm : ∃ mm, s₁.heap.Ns sysModules mm) (hg : s₁.gens = #[])
    (ha : s₁.heap.get? a = some { cls := .type "list", data := .seq vs.toArray }) (hi : IntsAre vs ns) (hl : ns.length ≤ sizeLine) (hr : Room k callerA)
    (F : ∀ base : Heap, K.In base → base.Ns mainGlobals mg → ∃ G : Pg, G.P = P ∧ G.w = w ∧ G.K = K ∧ G.mg = mg ∧ G.base = base ∧ G.i0 = [] ∧ FnG G k fa fd [x] (spI G m 1)) (hbind : ∀ (s : Shared) (u : Value), BindsTo s fd ⟨[u], []⟩ [(x, u)])
    (hm : ∃ h', m [.slst (ns.map W.int)] [] = .ok (.bl true) h') :
    codeAny (model P w) callerA (.call (.ref fa) ⟨[.ref a], []⟩) (fun r s' => r = .ok (.ret (.bool true)) ∧ OldK s₁.heap s'.heap ∧ s'.os = s₁.os ∧ AllBare s'.gens) s₁ := by
  have rv := vals_ints hi
  have lenV := hi.length
  let o : Obj := { cls := .type "list", data := .seq vs.toArray }
  obtain ⟨mm0, qm, qes, qep, hqm, hqd, _⟩ := hsm
  have hne : sysModules ≠ a := fun z => by
    subst z
    rw [ha] at hqm
    cases hqm
    cases (show Data.seq vs.toArray _ = Data.dict qes qep from hqd)
  let H := hScr K a o qm (ns.map V.int)
  have free : ∀ {b : Addr} {q : Obj}, s₁.heap.get? b = some q → (b = a → K.lookup a ≠ none) → (b = sysModules → K.lookup sysModules ≠ none) → (hidT s₁.heap H).get? b = some q := fun {b q} e z z2 => hidT_get e (by
    show hScr K a o qm (ns.map V.int) b = none
    unfold hScr
    rw [if_neg fun y => z y.1 y.2]
    exact if_neg fun y => z2 y.1 y.2)
  have dicts : ∀ {b : Addr} {mm : Str → Option Value}, b ≠ sysModules → s₁.heap.Ns b mm → (hidT s₁.heap H).Ns b mm := by
    rintro b mm nb ⟨q, es, ep, e, dd, r⟩
    refine ⟨q, es, ep, free e (fun z => ?_) (fun z => absurd z nb), dd, r⟩
    subst z
    rw [ha] at e
    cases e
    cases (show Data.seq vs.toArray _ = Data.dict es ep from dd)
  have inB : K.In (hidT s₁.heap H) := fun b q e => free (KX b q e) (fun z y => by subst z; rw [y] at e; cases e) (fun z y => by subst z; rw [y] at e; cases e)
  have md : Mod K mg (hidT s₁.heap H) := ⟨inB, dicts (by decide) hns, ⟨mb, dicts (by decide) hb, hbb⟩, let ⟨mc, h1, h2⟩ := hlim; ⟨mc, dicts (by decide) h1, h2⟩⟩
  have hok : HOk P w H s₁.heap := by
    intro b u e
    rcases hScr_at e with ⟨rfl, _, rfl⟩ | ⟨rfl, _, rfl⟩
    · exact ⟨ha, by rw [List.length_map]; exact hl, vs, _, rv, ha⟩
    · exact ⟨hqm, ⟨qm, hqm⟩⟩
  obtain ⟨G, rfl, rfl, rfl, rfl, hbase, hi0, fn⟩ := F (hidT s₁.heap H) inB (dicts (by decide) hns)
  have stl : StL G.K H a (ns.map V.int) := by
    cases hk : G.K.lookup a with
    | some q =>
      have e := KX a q hk
      rw [ha] at e
      cases e
      exact .inr ⟨_, vs.toArray, _, hk, rfl, by rw [List.size_toArray, lenV]; exact hl, by simpa using rv⟩
    | none => exact .inl ⟨o, if_pos ⟨rfl, hk⟩⟩
  have e0 : Env0 G.P G.w G.K G.mg G.base callerA [] s₁ H := by
    rw [hbase]
    exact ⟨rfl, md, fun b q e => of_hidT e, Nat.le_of_eq (hidT_size _ _), trivial, fun b hb => absurd (show b ∈ ([] : List Addr) from hb) (by simp), hok, .of_eq hg⟩
  have vr : ∀ ns : List Int, VRs G H [] (ns.map W.int) (ns.map V.int) := by
    intro ns
    induction ns with
    | nil => exact .nil
    | cons n ns ih => exact .cons (.int n) ih
  have smt : SmT G.K H := by
    cases hk : G.K.lookup sysModules with
    | some q =>
      have e := KX sysModules q hk
      rw [hqm] at e
      cases e
      exact .inr ⟨_, qes, qep, hk, hqd⟩
    | none => exact .inl ⟨qm, .own sysModules, qes, qep, by
        show hScr G.K a o qm (ns.map V.int) sysModules = _
        unfold hScr
        rw [if_neg fun y => hne y.1]
        exact if_pos ⟨rfl, hk⟩, hqd⟩
  obtain ⟨h', hm⟩ := hm
  have sp : spI G m 1 [.ref a] H (fun v _ => v = .bl true) (fun _ _ _ => False) := by
    refine ⟨rfl, [], [], [.slst (ns.map W.int)], ⟨rfl, fun n o a e => by simp at e, fun m n a e => by simp at e, ⟨[], by rw [hi0]; rfl⟩, smt⟩, .cons (.slst stl (vr ns)) .nil, ?_⟩
    rw [hm]
    intro ι' H' s r v hv
    cases hv
    rfl
  refine codeAny_mono (fn.run callerA [] s₁ H ⟨[.ref a], []⟩ [.ref a] [.ref a] _ _ hr rfl e0 (hbind s₁ (.ref a)) (.cons rfl .nil) sp) fun r s' q => ?_
  match r, q with
  | .error e, q => obtain ⟨_, _, _, _, _, _, _, _, _, _, _, _, z⟩ := q; exact z.elim
  | .ok .next, q => exact False.elim q
  | .ok .brk, q => exact False.elim q
  | .ok .cont, q => exact False.elim q
  | .ok (.ret u), q =>
    obtain ⟨v, H', os, bare, un, hok', r', q⟩ := q
    have q' : v = .bl true := q
    subst q'
    obtain rfl : u = Value.bool true := r'
    refine ⟨rfl, OldK.of_keep fun b q e => ?_, os, bare⟩
    cases hH : H b with
    | none => exact un.keep b q e hH (fun z => absurd (show b ∈ ([] : List Addr) from z) (by simp)) (by simp)
    | some u =>
      rcases hScr_at hH with ⟨rfl, _, rfl⟩ | ⟨rfl, _, rfl⟩
      · obtain ⟨e2, _⟩ := hok' _ _ (un.frzs _ _ _ hH)
        rw [ha] at e
        cases e
        exact e2
      · obtain ⟨e2, _⟩ := hok' _ _ (un.frzs _ _ _ hH)
        rw [hqm] at e
        cases e
        exact e2
theorem walkG {l : PySem.W.OpenLaw} {n k : Nat} {q : Program} {loose : List Str} {XP : (Str → Option Value) → Heap → Prop} {YP : World → Heap → Prop} {d : DefRec} {K : Params → PySem.W.Frag} {x : Str} {m : List W → List O → R W}
    (hn : l.most = some n) (hn2 : n ≤ sizeLine) (hdf : d.params.defaults = []) (hr : Room k callerA) (hq : importsNone q = true)
    (hY : ∀ (w : World) (h : Heap), YP w h → (K w.params).In h)
    (F : ∀ (w : World) (mg : Str → Option Value) (fa : Addr) (h : Heap), (K w.params).In h → h.Ns mainGlobals mg → mg d.name = some (.ref fa) →
      ∃ fd : FuncData, (∀ (s : Shared) (u : Value), BindsTo s fd ⟨[u], []⟩ [(x, u)]) ∧
        ∀ base : Heap, (K w.params).In base → base.Ns mainGlobals mg → ∃ G : Pg, G.P = l.prog ∧ G.w = w ∧ G.K = K w.params ∧ G.mg = mg ∧ G.base = base ∧ G.i0 = [] ∧ FnG G k fa fd [x] (spI G m 1))
    (hm : ∀ ns : List Int, ns.length ≤ n → ∃ h', m [.slst (ns.map W.int)] [] = .ok (.bl true) h') :
    PySem.W.WalkO q loose XP YP l.row.toRowW d [] (fun f vs => PySem.call f vs) := by
  refine Att.attach_call hn hdf fun w s₀ s₁ mg mb fa o pm cd doc a vs ns G Y ho hd hcd hmg hobj hints hlen hg => ?_
  obtain ⟨fd, hb, hF⟩ := F w mg fa _ (hY w _ Y) G.T.g hmg
  exact law_callG (hY w _ Y) G.T.g G.T.b G.T.builtins G.T.nolimit (let ⟨mm, e, _⟩ := (G.T.seer hq).mods; ⟨mm, e⟩) hg hobj hints (Nat.le_trans hlen hn2) hr hF hb (hm ns hlen)
end
end MP
set_option maxRecDepth 100000
set_option maxHeartbeats 4000000
namespace MP
open PySem PySem.Spec PyProof.Rows L2
theorem defOk_of {G : Pg} {h : Heap} {t : Tx} {f x : Str} {d : FD} {st : Stmt} {fa : Addr} {oc : Value} {od an : Option Addr} {osl : Array (Option Value)} {kV doc pm cdv ct : Value} (X : G.K.In h) (N : h.Ns mainGlobals G.mg)
    (a : PySem.W.nsIn G.K mainGlobals f = some (some (.ref fa))) (l : G.K.lookup fa = some ⟨oc, od, .func (PySem.W.fnOf x x (defArgs st) (defBody st) (defScope st) .none kV doc pm an cdv ct), osl⟩)
    (c : PySem.W.codeIn G.K cdv x = true) (k : PySem.W.keepIn G.K (.ref fa) = true)
    (hb : ∀ (kV doc pm : Value) (an : Option Addr) (cdv ct : Value) (us : List Value), us.length = d.ps.length → bindArgs (PySem.W.fnOf x x (defArgs st) (defBody st) (defScope st) .none kV doc pm an cdv ct) ⟨us, []⟩ = pure (d.ps.zip us))
    (hc : chkD t st d = true) : DefOk G t f d :=
  ⟨st, fa, _, x, fun_mk l c k, PySem.W.mg_of X N a, (fun_mk l c k).binds hb, hc⟩
/-- a module's constant -/
structure GlOk (G : Pg) (x : Str) (w : W) : Prop where
  ok : ∃ u v, G.mg x = some u ∧ RelV v u ∧ ∀ ι H, (∃ r, ι = G.i0 ++ r) → VR G H ι w v
theorem gl_str {G : Pg} {h : Heap} {x y : Str} {t : Tok} (X : G.K.In h) (N : h.Ns mainGlobals G.mg) (a : PySem.W.nsIn G.K mainGlobals x = some (some (.str y t))) : GlOk G x (.str y) := ⟨_, .str y, PySem.W.mg_of X N a, ⟨t, rfl⟩, fun _ _ _ => .str y⟩
theorem gl_int {G : Pg} {h : Heap} {x : Str} {y : Int} {t : Tok} (X : G.K.In h) (N : h.Ns mainGlobals G.mg) (a : PySem.W.nsIn G.K mainGlobals x = some (some (.int y t))) : GlOk G x (.int y) := ⟨_, .int y, PySem.W.mg_of X N a, ⟨t, rfl⟩, fun _ _ _ => .int y⟩
theorem mem_lookup' {α : Type} {D : List (Str × α)} {f : Str} {d : α} : D.lookup f = some d → (f, d) ∈ D := by
  induction D with
  | nil => intro h; simp at h
  | cons p D ih =>
    obtain ⟨g, d'⟩ := p
    intro h
    rw [List.lookup_cons] at h
    cases hb : f == g with
    | true =>
      rw [hb] at h
      cases h
      have := beq_iff_eq.mp hb
      subst this
      exact List.mem_cons_self
    | false =>
      rw [hb] at h
      exact List.mem_cons_of_mem _ (ih h)
/-! ### the text's classes -/
/-- an exception of the class at Cx met by a clause of the class at Cy -/
theorem exm_of {K : PySem.W.Frag} {Cx Cy : Addr} {b : Bool} (h1 : PySem.W.subIn K (.ref Cy) (.type "BaseException") = some true) (h2 : PySem.W.isClsIn K Cy = true) (h3 : PySem.W.typeIn K (.ref Cy) = some (.type "type")) (h4 : PySem.W.subIn K (.ref Cx) (.ref Cy) = some b) :
    PySem.W.exmOne K (.ref Cx) (.ref Cy) = some b := by
  have a1 : (PySem.W.subIn K (.ref Cy) (.type "BaseException") == some true) = true := by rw [h1]; rfl
  have a2 : ((PySem.W.clsIn K Cy).isSome && PySem.W.typeIn K (.ref Cy) == some (.type "type")) = true := by
    rw [h3, show (PySem.W.clsIn K Cy).isSome = true from h2]; rfl
  unfold PySem.W.exmOne
  rw [if_pos a1]
  show (if ((PySem.W.clsIn K Cy).isSome && PySem.W.typeIn K (.ref Cy) == some (.type "type")) = true then PySem.W.subIn K (.ref Cx) (.ref Cy) else none) = some b
  rw [if_pos a2]
  exact h4
theorem exC_of {G : Pg} {h : Heap} {st : Stmt} {q b pv f x : Str} {C fI B N : Addr} {oc : Value} {od an : Option Addr} {osl : Array (Option Value)} {kV doc pm cdv ct : Value} {nm q2 : Str} {bs bm : List Value} {sn : List Str} {sub : List Value} {ab : Bool} {col : Option Bool} {dd : Option Addr} {m0 m1 m2 m3 m5 : Option Value}
    (X : G.K.In h) (Ng : h.Ns mainGlobals G.mg) (hcls : G.cls x = some C) (aC : PySem.W.nsIn G.K mainGlobals x = some (some (.ref C))) (aB : PySem.W.nsIn G.K mainGlobals b = some (some (.ref B))) (T : BsC G.K B)
    (xL : G.K.lookup C = some (excClassObj nm q2 C N bs bm true sn sub ab col dd m0 m1 m2 m3 m5 "ValueError.__new__")) (hbm : PySem.HandSPX.refsVE bm = true)
    (sa : PySem.W.findIn G.K (.ref C) "__setattr__" = some (some (.builtin "object.__setattr__"))) (ga : PySem.W.findIn G.K (.ref C) "__getattribute__" = some (some (.builtin "BaseException.__getattribute__"))) (gg : PySem.W.findIn G.K (.ref C) "__getattr__" = some none)
    (nb : PySem.W.findIn G.K (.ref C) f = some none) (iN : PySem.W.findIn G.K (.ref C) "__init__" = some (some (.ref fI))) (tI : PySem.W.typeIn G.K (.ref fI) = some (.type "function"))
    (lI : G.K.lookup fI = some ⟨oc, od, .func (PySem.W.fnOf "__init__" q (defArgs st) (defBody st) (defScope st) .none kV doc pm an cdv ct), osl⟩) (cI : PySem.W.codeIn G.K cdv q = true) (kI : PySem.W.keepIn G.K (.ref fI) = true)
    (kC : PySem.W.keepIn G.K (.ref C) = true) (eC : PySem.W.subIn G.K (.ref C) (.type "BaseException") = some true) (tC : PySem.W.typeIn G.K (.ref C) = some (.type "type")) (hC : PySem.W.hasDictIn G.K C = true)
    (hbind : ∀ (kV doc pm : Value) (an : Option Addr) (cdv ct : Value) (us : List Value), us.length = (["self", pv] : List Str).length → bindArgs (PySem.W.fnOf "__init__" q (defArgs st) (defBody st) (defScope st) .none kV doc pm an cdv ct) ⟨us, []⟩ = pure ((["self", pv] : List Str).zip us))
    (hc : initB st b pv f = true) : ∃ fd, ExC G x f C fI fd pv := by
  have F := fun_mk lI cI kI
  exact ⟨_, hcls, PySem.W.mg_of X Ng aC, ⟨⟨nm, q2, N, bs, bm, sn, sub, ab, col, dd, m0, m1, m2, m3, m5, xL, hbm⟩, sa, eC, tC, kC⟩, iN, tI, init_fn F hc (PySem.W.mg_of X Ng aB) T, F.binds hbind, nb, ⟨ga, gg, eC, hC⟩⟩
theorem ec_of {G : Pg} {h : Heap} {C : Cc} {lvl : Nat} {exs : List (Str × Str)} {cs : List (Str × Addr)} {ps : List ((Str × Str) × Bool)} (X : G.K.In h) (Ng : h.Ns mainGlobals G.mg) (hl : 2 ≤ lvl) (hx : C.exs = exs) (hi : ∀ x y, C.isA x y = ps.lookup (x, y)) (hcls : ∀ x, G.cls x = cs.lookup x)
    (hns : ∀ p ∈ cs, PySem.W.nsIn G.K mainGlobals p.1 = some (some (.ref p.2))) (hm : ∀ p ∈ exs, ∃ Ca fI fd pv, ExC G p.1 p.2 Ca fI fd pv)
    (hp : ∀ q ∈ ps, ∀ Cx Cy, cs.lookup q.1.1 = some Cx → cs.lookup q.1.2 = some Cy → PySem.W.exmOne G.K (.ref Cx) (.ref Cy) = some q.2) : Ec G C lvl exs (cs.map (·.1)) := by
  have memA : ∀ {α : Type} {l : List (Str × α)} {y : Str} {a : α}, l.lookup y = some a → (y, a) ∈ l := fun h => mem_lookup' h
  have memP : ∀ {l : List ((Str × Str) × Bool)} {k : Str × Str} {b : Bool}, l.lookup k = some b → (k, b) ∈ l := by
    intro l k b
    induction l with
    | nil => intro h; simp at h
    | cons p l ih =>
      obtain ⟨j, c⟩ := p
      intro h
      rw [List.lookup_cons] at h
      cases hb : k == j with
      | true =>
        rw [hb] at h
        cases h
        rw [beq_iff_eq.mp hb]
        exact List.mem_cons_self
      | false =>
        rw [hb] at h
        exact List.mem_cons_of_mem _ (ih h)
  refine ⟨hl, hx, fun x f hf => hm _ hf, fun y hy => ?_⟩
  have : ∃ Cy, cs.lookup y = some Cy := by
    clear hp hm hns hcls
    induction cs with
    | nil => simp at hy
    | cons p cs ih =>
      obtain ⟨z, c⟩ := p
      rw [List.lookup_cons]
      cases hb : y == z with
      | true => exact ⟨c, rfl⟩
      | false =>
        rw [List.map_cons] at hy
        rcases List.mem_cons.mp hy with hy | hy
        · rw [hy] at hb; simp at hb
        · exact ih hy
  obtain ⟨Cy, ey⟩ := this
  refine ⟨Cy, PySem.W.mg_of X Ng (hns _ (memA ey)), fun x b Cx h1 h2 => ?_⟩
  rw [hi] at h1
  rw [hcls] at h2
  exact hp _ (memP h1) Cx Cy h2 ey
/-- the law's promise from its def and what it leans on -/
theorem law_fn {G : Pg} {h : Heap} {D : List (Str × FD)} {gl : List (Str × W)} {isA : Str → Str → Option Bool} {exs : List (Str × Str)} {kx : Kx} {cls : List Str} {fs : List Str} {fuel k : Nat} {d : FD} {st : Stmt} {fa : Addr} {f : Str} {oc : Value} {od an : Option Addr} {osl : Array (Option Value)} {kV doc pm cdv ct : Value} (X : G.K.In h) (N : h.Ns mainGlobals G.mg)
    (hb : ∀ x ∈ bltNames, PySem.W.nsIn G.K mainGlobals x = some none) (hg : ∀ p ∈ gl, GlOk G p.1 p.2) (hE : ∀ k, Ec G (mkC D (fun x => gl.lookup x) isA exs kx fuel k) (k + 3) exs cls) (hK : KxOk G ⟨fs, exs, cls⟩ D kx) (hD : ∀ f ∈ fs, ∃ d, D.lookup f = some d ∧ DefOk G ⟨fs, exs, cls⟩ f d)
    (l : G.K.lookup fa = some ⟨oc, od, .func (PySem.W.fnOf f f (defArgs st) (defBody st) (defScope st) .none kV doc pm an cdv ct), osl⟩)
    (c : PySem.W.codeIn G.K cdv f = true) (kp : PySem.W.keepIn G.K (.ref fa) = true) (hc : chkD ⟨fs, exs, cls⟩ st d = true) :
    FnG G (k + 4) fa (PySem.W.fnOf f f (defArgs st) (defBody st) (defScope st) .none kV doc pm an cdv ct) d.ps (spI G (runF (mkC D (fun x => gl.lookup x) isA exs kx fuel k) d) d.ps.length) :=
  def_ok (Fun.toX (fun_mk l c kp)) hc (fc_all (fun x hx => PySem.W.mg_none_of X N (hb x hx)) (fun x w e => (hg _ (mem_lookup' e)).ok) hE hK hD k) (hE k)
end MP
set_option maxRecDepth 100000
set_option maxHeartbeats 4000000
/-! classes and calls with keywords, from what is written of them -/
namespace MP
open PySem PySem.Spec PyProof.Rows L2
def arrG {α : Type} (d : α) (f : W → α) (ws : List α) (ar : List Ar) : List α := ar.map fun
  | .at i => ws.getD i d
  | .dv w => f w
theorem getD_vals {vs : List V} {us : List Value} (h : Vals vs us) : ∀ i, RelV (vs.getD i .non) (us.getD i .none) := by
  intro i
  by_cases hi : i < vs.length
  · obtain ⟨u, e, r⟩ := h.get (i := i) (x := vs[i]) (by simp [hi])
    have e1 : vs.getD i .non = vs[i] := by simp [List.getD, hi]
    have e2 : us.getD i .none = u := by simp [List.getD, e]
    rw [e1, e2]; exact r
  · have hl := h.length
    have e1 : vs.getD i .non = .non := by simp [List.getD, List.getElem?_eq_none (show vs.length ≤ i by omega)]
    have e2 : us.getD i .none = .none := by simp [List.getD, List.getElem?_eq_none (show us.length ≤ i by omega)]
    rw [e1, e2]; exact rfl
theorem getD_vrs {G : Pg} {H : Hp} {ι : List Addr} {ws : List W} {vs : List V} (h : VRs G H ι ws vs) : ∀ i, VR G H ι (ws.getD i .non) (vs.getD i .non) := by
  intro i
  by_cases hi : i < ws.length
  · obtain ⟨v, e, r⟩ := h.get (i := i) (w := ws[i]) (by simp [hi])
    have e1 : ws.getD i .non = ws[i] := by simp [List.getD, hi]
    have e2 : vs.getD i .non = v := by simp [List.getD, e]
    rw [e1, e2]; exact r
  · have hl := h.length
    have e1 : ws.getD i .non = .non := by simp [List.getD, List.getElem?_eq_none (show ws.length ≤ i by omega)]
    have e2 : vs.getD i .non = .non := by simp [List.getD, List.getElem?_eq_none (show vs.length ≤ i by omega)]
    rw [e1, e2]; exact .non
theorem frm_mk {G : Pg} {fd : FuncData} {ps : List Str} {n : Nat} {ks : List Str} {ar : List Ar} (fu : W → Value) (fv : W → V) (hd : ∀ w, Ar.dv w ∈ ar → RelV (fv w) (fu w) ∧ ∀ H ι, VR G H ι w (fv w))
    (hb : ∀ (s : Shared) (us ws : List Value), G.K.In s.heap → us.length = n → ws.length = ks.length → BindsTo s fd ⟨us, ks.zip ws⟩ (ps.zip (arrG .none fu (us ++ ws) ar))) : Frm G fd ps n ks ar := by
  refine ⟨fun us ws => arrG .none fu (us ++ ws) ar, fun vs zs => arrG .non fv (vs ++ zs) ar, ⟨fun s us ws X l1 l2 => hb s us ws X l1 l2, fun r1 r2 => ?_⟩, fun H ι ws vs zs _ _ h => ?_⟩
  · have r := r1.append r2
    clear hb
    unfold arrG
    induction ar with
    | nil => exact .nil
    | cons a ar ih =>
      refine .cons ?_ (ih fun w hw => hd w (List.mem_cons_of_mem _ hw))
      cases a with
      | «at» i => exact getD_vals r i
      | dv w => exact (hd w List.mem_cons_self).1
  · clear hb
    unfold arr arrG
    induction ar with
    | nil => exact .nil
    | cons a ar ih =>
      refine .cons ?_ (ih fun w hw => hd w (List.mem_cons_of_mem _ hw))
      cases a with
      | «at» i => exact getD_vrs h i
      | dv w => exact (hd w List.mem_cons_self).2 H ι
/-- no default is looked for -/
theorem frm_0 {G : Pg} {fd : FuncData} {ps : List Str} {n : Nat} {ks : List Str} {is : List Nat} (hb : ∀ (us ws : List Value), us.length = n → ws.length = ks.length → bindArgs fd ⟨us, ks.zip ws⟩ = pure (ps.zip (is.map fun i => (us ++ ws).getD i .none))) : Frm G fd ps n ks (is.map .at) := by
  refine frm_mk (fun _ => .none) (fun _ => .non) (fun w hw => ?_) fun s us ws X l1 l2 => ?_
  · obtain ⟨i, _, e⟩ := List.mem_map.mp hw
    cases e
  · have e : arrG .none (fun _ => .none) (us ++ ws) (is.map .at) = is.map fun i => (us ++ ws).getD i .none := by
      unfold arrG
      rw [List.map_map]
      rfl
    rw [e]
    exact .of_eq (hb us ws l1 l2)
/-- one keyword default is looked for: d at D's k -/
theorem frm_k {G : Pg} {fd : FuncData} {ps : List Str} {n : Nat} {ks : List Str} {ar : List Ar} {D : Addr} {ms : List (Str × Value)} (fu : W → Value) (fv : W → V) (hd : ∀ w, Ar.dv w ∈ ar → RelV (fv w) (fu w) ∧ ∀ H ι, VR G H ι w (fv w))
    (hm : ∀ q ∈ ms, PySem.W.nsIn G.K D q.1 = some (some q.2)) (hb : ∀ (us ws : List Value), us.length = n → ws.length = ks.length → KwChain D ms (bindArgs fd ⟨us, ks.zip ws⟩) (ps.zip (arrG .none fu (us ++ ws) ar))) : Frm G fd ps n ks ar :=
  frm_mk fu fv hd fun s us ws X l1 l2 => BindsTo.of_looks fun M => KwChain.looks X hm (hb us ws l1 l2)
/-- the positional defaults are looked for -/
theorem frm_d {G : Pg} {fd : FuncData} {ps : List Str} {n : Nat} {ks : List Str} {ar : List Ar} {T : Addr} {o : Obj} {its : Array Value} {m : Nat} (fu : W → Value) (fv : W → V) (hd : ∀ w, Ar.dv w ∈ ar → RelV (fv w) (fu w) ∧ ∀ H ι, VR G H ι w (fv w))
    (lT : G.K.lookup T = some o) (oT : o.data = .seq its m) (hb : ∀ (us ws : List Value), us.length = n → ws.length = ks.length → ∃ k, bindArgs fd ⟨us, ks.zip ws⟩ = seqItems? (.ref T) >>= k ∧ k (some its) = pure (ps.zip (arrG .none fu (us ++ ws) ar))) : Frm G fd ps n ks ar :=
  frm_mk fu fv hd fun s us ws X l1 l2 => by
    obtain ⟨k, e1, e2⟩ := hb us ws l1 l2
    refine BindsTo.of_looks fun M => ?_
    rw [e1]
    exact looks_items X lT oT (.of_pure e2)
/-- a method, a getter, an __init__ -/
theorem metOk_of {G : Pg} {t : Tx} {f x q : Str} {d : FD} {st : Stmt} {fa : Addr} {oc : Value} {od an : Option Addr} {osl : Array (Option Value)} {dV kV doc pm cdv ct : Value} {n : Nat} {ks : List Str} {ar : List Ar}
    (hadr : G.adr f = some fa) (l : G.K.lookup fa = some ⟨oc, od, .func (PySem.W.fnOf x q (defArgs st) (defBody st) (defScope st) dV kV doc pm an cdv ct), osl⟩) (c : PySem.W.codeIn G.K cdv q = true) (k : PySem.W.keepIn G.K (.ref fa) = true)
    (hf : Frm G (PySem.W.fnOf x q (defArgs st) (defBody st) (defScope st) dV kV doc pm an cdv ct) d.ps n ks ar) (hc : chkD t st d = true) : MetOk G t f d n ks ar :=
  ⟨st, fa, _, x, q, ⟨⟨oc, od, dV, kV, doc, pm, an, cdv, ct, osl, rfl, l, c⟩⟩, k, hadr, hf, hc⟩
theorem cls_of {K : PySem.W.Frag} {C : Addr} (h1 : PySem.W.plainGet K C Str.empty = true) (h2 : PySem.W.hasDictIn K C = true) (h3 : PySem.W.plainOver K C = true) (h4 : PySem.W.findIn K (.ref C) "__setattr__" = some (some (.builtin "object.__setattr__"))) : Cls K C := ⟨h1, h2, h3, h4⟩
theorem kit_rt {K : PySem.W.Frag} {C : Addr} {T : String} {b : Bool} (h : PySem.W.subIn K (.ref C) (.type T) = some b) (m : PySem.W.kitMeta T = true) : PySem.W.kitOne K (.ref C) (.type T) = some b := by
  unfold PySem.W.kitOne
  rw [if_neg (by simp)]
  show (if PySem.W.kitMeta T = true then PySem.W.subIn K (.ref C) (.type T) else none) = _
  rw [if_pos m, h]
theorem kit_tr {K : PySem.W.Frag} {C : Addr} {T : String} {b : Bool} (h1 : PySem.W.isClsIn K C = true) (h2 : PySem.W.typeIn K (.ref C) = some (.type "type")) (h : PySem.W.subIn K (.type T) (.ref C) = some b) : PySem.W.kitOne K (.type T) (.ref C) = some b := by
  unfold PySem.W.kitOne
  rw [if_neg (by simp)]
  have a2 : ((PySem.W.clsIn K C).isSome && PySem.W.typeIn K (.ref C) == some (.type "type")) = true := by
    rw [h2, show (PySem.W.clsIn K C).isSome = true from h1]; rfl
  show (if ((PySem.W.clsIn K C).isSome && PySem.W.typeIn K (.ref C) == some (.type "type")) = true then PySem.W.subIn K (.type T) (.ref C) else none) = _
  rw [if_pos a2, h]
theorem kit_rr {K : PySem.W.Frag} {D C : Addr} {b : Bool} (h0 : (Value.ref D == Value.ref C) = false) (h1 : PySem.W.isClsIn K C = true) (h2 : PySem.W.typeIn K (.ref C) = some (.type "type")) (h : PySem.W.subIn K (.ref D) (.ref C) = some b) : PySem.W.kitOne K (.ref D) (.ref C) = some b := by
  unfold PySem.W.kitOne
  rw [if_neg (by rw [h0]; exact Bool.false_ne_true)]
  have a2 : ((PySem.W.clsIn K C).isSome && PySem.W.typeIn K (.ref C) == some (.type "type")) = true := by
    rw [h2, show (PySem.W.clsIn K C).isSome = true from h1]; rfl
  show (if ((PySem.W.clsIn K C).isSome && PySem.W.typeIn K (.ref C) == some (.type "type")) = true then PySem.W.subIn K (.ref D) (.ref C) else none) = _
  rw [if_pos a2, h]
theorem kit_self {K : PySem.W.Frag} {C : Addr} : PySem.W.kitOne K (.ref C) (.ref C) = some true := by
  unfold PySem.W.kitOne
  rw [if_pos (by simp)]
theorem vr_tup0 {G : Pg} {H : Hp} {ι : List Addr} {E : Addr} {o : Obj} {n : Nat} (l : G.K.lookup E = some o) (e : o = { cls := .type "tuple", data := .seq #[] n }) : VR G H ι (.tup []) (.ref E) := by
  subst e
  exact .tup (.inr ⟨_, #[], n, l, rfl, rfl, by decide +kernel, .nil⟩) .nil
end MP
set_option maxRecDepth 100000
set_option maxHeartbeats 4000000
namespace MP
open PySem PySem.Spec PyProof.Rows L2
/-! ### the interpreter's equations; what follows a step is not looked into before the step is done -/
def ifR {α : Type} (b : Bool) (x y : R α) (_t : Tag x := .mk) (_u : Tag y := .mk) : R α := if b = true then x else y
def ifS (b : Bool) (x y : RS) (_t : Tag x := .mk) (_u : Tag y := .mk) : RS := if b = true then x else y
@[simp] theorem ifR_t {α : Type} {x y : R α} : ifR true x y = x := rfl
@[simp] theorem ifR_f {α : Type} {x y : R α} : ifR false x y = y := rfl
@[simp] theorem ifS_t {x y : RS} : ifS true x y = x := rfl
@[simp] theorem ifS_f {x y : RS} : ifS false x y = y := rfl
@[simp] theorem noX_ok {α : Type} (a : α) (h : List O) : noX (R.ok a h) = R.ok a h := rfl
def negW (x : W) (h : List O) : R W := match x with | .int i => .ok (.int (-i)) h | _ => .stuck
@[simp] theorem negW_i (i : Int) (h : List O) : negW (.int i) h = .ok (.int (-i)) h := rfl
def subO (x : Opd) (y : W) (h : List O) : R W := match x with
    | .inl ws => match y with
      | .int i => ofO (atI ws i) h
      | _ => .stuck
    | .inr x => subW x y h
@[simp] theorem subO_l (ws : List W) (i : Int) (h : List O) : subO (.inl ws) (.int i) h = ofO (atI ws i) h := rfl
@[simp] theorem subO_r (x y : W) (h : List O) : subO (.inr x) y h = subW x y h := rfl
def sliceW (x : W) (l u : Option Int) (h : List O) : R W := match x with
    | .str z => chk (decide (z.length ≤ sizeLine)) (.ok (.str (cutS z l u)) h)
    | .tup ws => .ok (.tup (cutW ws l u)) h
    | x => (lsqO h (.inr x)).bind fun ws h => .ok (.slst (cutW ws l u)) h
@[simp] theorem sliceW_t (ws : List W) (l u : Option Int) (h : List O) : sliceW (.tup ws) l u h = .ok (.tup (cutW ws l u)) h := rfl
@[simp] theorem sliceW_l (ws : List W) (l u : Option Int) (h : List O) : sliceW (.slst ws) l u h = .ok (.slst (cutW ws l u)) h := rfl
@[simp] theorem sliceW_s (z : Str) (l u : Option Int) (h : List O) : sliceW (.str z) l u h = chk (decide (z.length ≤ sizeLine)) (.ok (.str (cutS z l u)) h) := rfl
def repW (ws : List W) (y : W) (h : List O) : R (List W) := match y with
    | .int k => chk (decide (-(2 ^ 63) ≤ k ∧ k < 2 ^ 63) && decide (ws.length * k.toNat ≤ sizeLine)) (.ok (List.replicate k.toNat ws).flatten h)
    | _ => .stuck
@[simp] theorem repW_i (ws : List W) (k : Int) (h : List O) : repW ws (.int k) h = chk (decide (-(2 ^ 63) ≤ k ∧ k < 2 ^ 63) && decide (ws.length * k.toNat ≤ sizeLine)) (.ok (List.replicate k.toNat ws).flatten h) := rfl
def lcBody (C : Cn) (elt : Me) (tg : Mt) (ifs : Mo) (ℓ0 : Lo) (w : W) (h : List O) : R (Option W) := (evt C tg w ℓ0 h).bind fun ℓ2 h => (evf C ifs ℓ2 h).bind fun k h => ifR k (((ev C elt).v ℓ2 h).bind fun y h => .ok (some y) h) (.ok none h)
def lenO (x : Opd) (h : List O) : R W := match x with
    | .inl ws => .ok (.int ws.length) h
    | .inr w => lenW w h
@[simp] theorem lenO_l (ws : List W) (h : List O) : lenO (.inl ws) h = .ok (.int ws.length) h := rfl
@[simp] theorem lenO_r (w : W) (h : List O) : lenO (.inr w) h = lenW w h := rfl
def strR {α : Type} (x : W) (f : Str → R α) (_t : Tag f := .mk) : R α := match x with
  | .str a => f a
  | _ => .stuck
@[simp] theorem strR_s {α : Type} (x : Str) (f : Str → R α) : strR (.str x) f = f x := rfl
def optI (w : W) (h : List O) : R (Option Int) := match w with
    | .int i => .ok (some i) h
    | _ => .stuck
@[simp] theorem optI_i (i : Int) (h : List O) : optI (.int i) h = .ok (some i) h := rfl
def forBody (C : Cc) (t : Mt) (b : Mss) (w : W) (ℓ : Lo) (h : List O) : RS := liftE ℓ (noX (evt C.cn t w ℓ h)) fun ℓ h => evSs C b ℓ h
def blR (w : W) (h : List O) : R Bool := match w with
  | .bl b => .ok b h
  | _ => .stuck
@[simp] theorem blR_b (b : Bool) (h : List O) : blR (.bl b) h = .ok b h := rfl
@[simp] theorem unBl_ok' (b : Bool) (h : List O) : unBl (.ok (.bl b) h) = .ok b h := rfl
section
variable (C : Cn) (ℓ : Lo) (h : List O)

@[simp] theorem v_var (i : Nat) : (ev C (.var i)).v ℓ h = (ofO (getL ℓ i) h) := by rfl
@[simp] theorem t_var (i : Nat) : (ev C (.var i)).t ℓ h = ((ofO (getL ℓ i) h) : R W).bind fun w h => truR h w := by rfl
@[simp] theorem l_var (i : Nat) : (ev C (.var i)).l ℓ h = ((ofO (getL ℓ i) h) : R W).bind fun w h => seqR h w := by rfl
@[simp] theorem o_var (i : Nat) : (ev C (.var i)).opd ℓ h = ((ofO (getL ℓ i) h) : R W).bind fun w h => .ok (.inr w) h := by rfl
@[simp] theorem v_glob (x : Str) : (ev C (.glob x)).v ℓ h = (ofO (C.gl x) h) := by rfl
@[simp] theorem t_glob (x : Str) : (ev C (.glob x)).t ℓ h = ((ofO (C.gl x) h) : R W).bind fun w h => truR h w := by rfl
@[simp] theorem l_glob (x : Str) : (ev C (.glob x)).l ℓ h = ((ofO (C.gl x) h) : R W).bind fun w h => seqR h w := by rfl
@[simp] theorem o_glob (x : Str) : (ev C (.glob x)).opd ℓ h = ((ofO (C.gl x) h) : R W).bind fun w h => .ok (.inr w) h := by rfl
@[simp] theorem v_non  : (ev C .non).v ℓ h = (.ok .non h) := by rfl
@[simp] theorem t_non  : (ev C .non).t ℓ h = ((.ok .non h) : R W).bind fun w h => truR h w := by rfl
@[simp] theorem l_non  : (ev C .non).l ℓ h = ((.ok .non h) : R W).bind fun w h => seqR h w := by rfl
@[simp] theorem o_non  : (ev C .non).opd ℓ h = ((.ok .non h) : R W).bind fun w h => .ok (.inr w) h := by rfl
@[simp] theorem v_bl (b : Bool) : (ev C (.bl b)).v ℓ h = (.ok (.bl b) h) := by rfl
@[simp] theorem t_bl (b : Bool) : (ev C (.bl b)).t ℓ h = ((.ok (.bl b) h) : R W).bind fun w h => truR h w := by rfl
@[simp] theorem l_bl (b : Bool) : (ev C (.bl b)).l ℓ h = ((.ok (.bl b) h) : R W).bind fun w h => seqR h w := by rfl
@[simp] theorem o_bl (b : Bool) : (ev C (.bl b)).opd ℓ h = ((.ok (.bl b) h) : R W).bind fun w h => .ok (.inr w) h := by rfl
@[simp] theorem v_int (i : Int) : (ev C (.int i)).v ℓ h = (.ok (.int i) h) := by rfl
@[simp] theorem t_int (i : Int) : (ev C (.int i)).t ℓ h = ((.ok (.int i) h) : R W).bind fun w h => truR h w := by rfl
@[simp] theorem l_int (i : Int) : (ev C (.int i)).l ℓ h = ((.ok (.int i) h) : R W).bind fun w h => seqR h w := by rfl
@[simp] theorem o_int (i : Int) : (ev C (.int i)).opd ℓ h = ((.ok (.int i) h) : R W).bind fun w h => .ok (.inr w) h := by rfl
@[simp] theorem v_str (x : Str) : (ev C (.str x)).v ℓ h = (.ok (.str x) h) := by rfl
@[simp] theorem t_str (x : Str) : (ev C (.str x)).t ℓ h = ((.ok (.str x) h) : R W).bind fun w h => truR h w := by rfl
@[simp] theorem l_str (x : Str) : (ev C (.str x)).l ℓ h = ((.ok (.str x) h) : R W).bind fun w h => seqR h w := by rfl
@[simp] theorem o_str (x : Str) : (ev C (.str x)).opd ℓ h = ((.ok (.str x) h) : R W).bind fun w h => .ok (.inr w) h := by rfl
@[simp] theorem v_tup (es : Mes) : (ev C (.tup es)).v ℓ h = ((evs C es ℓ h).bind fun ws h => chk (decide (ws.length ≤ sizeLine)) (.ok (.tup ws) h)) := by rfl
@[simp] theorem t_tup (es : Mes) : (ev C (.tup es)).t ℓ h = (((evs C es ℓ h).bind fun ws h => chk (decide (ws.length ≤ sizeLine)) (.ok (.tup ws) h)) : R W).bind fun w h => truR h w := by rfl
@[simp] theorem l_tup (es : Mes) : (ev C (.tup es)).l ℓ h = (((evs C es ℓ h).bind fun ws h => chk (decide (ws.length ≤ sizeLine)) (.ok (.tup ws) h)) : R W).bind fun w h => seqR h w := by rfl
@[simp] theorem o_tup (es : Mes) : (ev C (.tup es)).opd ℓ h = (((evs C es ℓ h).bind fun ws h => chk (decide (ws.length ≤ sizeLine)) (.ok (.tup ws) h)) : R W).bind fun w h => .ok (.inr w) h := by rfl
@[simp] theorem v_dct (kvs : Mks) : (ev C (.dct kvs)).v ℓ h = ((evd C kvs ℓ h).bind fun kvs h => chk (decide (kvs.length ≤ 15)) (alloc (.dct (mergeW [] kvs)) h)) := by rfl
@[simp] theorem t_dct (kvs : Mks) : (ev C (.dct kvs)).t ℓ h = (((evd C kvs ℓ h).bind fun kvs h => chk (decide (kvs.length ≤ 15)) (alloc (.dct (mergeW [] kvs)) h)) : R W).bind fun w h => truR h w := by rfl
@[simp] theorem l_dct (kvs : Mks) : (ev C (.dct kvs)).l ℓ h = (((evd C kvs ℓ h).bind fun kvs h => chk (decide (kvs.length ≤ 15)) (alloc (.dct (mergeW [] kvs)) h)) : R W).bind fun w h => seqR h w := by rfl
@[simp] theorem o_dct (kvs : Mks) : (ev C (.dct kvs)).opd ℓ h = (((evd C kvs ℓ h).bind fun kvs h => chk (decide (kvs.length ≤ 15)) (alloc (.dct (mergeW [] kvs)) h)) : R W).bind fun w h => .ok (.inr w) h := by rfl
@[simp] theorem v_frz (a : Me) : (ev C (.frz a)).v ℓ h = (((ev C a).l ℓ h).bind fun ws h => .ok (.slst ws) h) := by rfl
@[simp] theorem t_frz (a : Me) : (ev C (.frz a)).t ℓ h = ((((ev C a).l ℓ h).bind fun ws h => .ok (.slst ws) h) : R W).bind fun w h => truR h w := by rfl
@[simp] theorem l_frz (a : Me) : (ev C (.frz a)).l ℓ h = ((((ev C a).l ℓ h).bind fun ws h => .ok (.slst ws) h) : R W).bind fun w h => seqR h w := by rfl
@[simp] theorem o_frz (a : Me) : (ev C (.frz a)).opd ℓ h = ((((ev C a).l ℓ h).bind fun ws h => .ok (.slst ws) h) : R W).bind fun w h => .ok (.inr w) h := by rfl
@[simp] theorem v_frd (kvs : Mks) : (ev C (.frd kvs)).v ℓ h = ((evd C kvs ℓ h).bind fun kvs h => chk (decide (kvs.length ≤ 15)) (.ok (.sdct (mergeW [] kvs)) h)) := by rfl
@[simp] theorem t_frd (kvs : Mks) : (ev C (.frd kvs)).t ℓ h = (((evd C kvs ℓ h).bind fun kvs h => chk (decide (kvs.length ≤ 15)) (.ok (.sdct (mergeW [] kvs)) h)) : R W).bind fun w h => truR h w := by rfl
@[simp] theorem l_frd (kvs : Mks) : (ev C (.frd kvs)).l ℓ h = (((evd C kvs ℓ h).bind fun kvs h => chk (decide (kvs.length ≤ 15)) (.ok (.sdct (mergeW [] kvs)) h)) : R W).bind fun w h => seqR h w := by rfl
@[simp] theorem o_frd (kvs : Mks) : (ev C (.frd kvs)).opd ℓ h = (((evd C kvs ℓ h).bind fun kvs h => chk (decide (kvs.length ≤ 15)) (.ok (.sdct (mergeW [] kvs)) h)) : R W).bind fun w h => .ok (.inr w) h := by rfl
@[simp] theorem v_bin (op : Operator) (a b : Me) : (ev C (.bin op a b)).v ℓ h = (((ev C a).v ℓ h).bind fun x h => ((ev C b).v ℓ h).bind fun y h => binW op x y h) := by rfl
@[simp] theorem t_bin (op : Operator) (a b : Me) : (ev C (.bin op a b)).t ℓ h = ((((ev C a).v ℓ h).bind fun x h => ((ev C b).v ℓ h).bind fun y h => binW op x y h) : R W).bind fun w h => truR h w := by rfl
@[simp] theorem l_bin (op : Operator) (a b : Me) : (ev C (.bin op a b)).l ℓ h = ((((ev C a).v ℓ h).bind fun x h => ((ev C b).v ℓ h).bind fun y h => binW op x y h) : R W).bind fun w h => seqR h w := by rfl
@[simp] theorem o_bin (op : Operator) (a b : Me) : (ev C (.bin op a b)).opd ℓ h = ((((ev C a).v ℓ h).bind fun x h => ((ev C b).v ℓ h).bind fun y h => binW op x y h) : R W).bind fun w h => .ok (.inr w) h := by rfl
@[simp] theorem v_neg (a : Me) : (ev C (.neg a)).v ℓ h = (((ev C a).v ℓ h).bind fun x h => negW x h) := by rfl
@[simp] theorem t_neg (a : Me) : (ev C (.neg a)).t ℓ h = ((((ev C a).v ℓ h).bind fun x h => negW x h) : R W).bind fun w h => truR h w := by rfl
@[simp] theorem l_neg (a : Me) : (ev C (.neg a)).l ℓ h = ((((ev C a).v ℓ h).bind fun x h => negW x h) : R W).bind fun w h => seqR h w := by rfl
@[simp] theorem o_neg (a : Me) : (ev C (.neg a)).opd ℓ h = ((((ev C a).v ℓ h).bind fun x h => negW x h) : R W).bind fun w h => .ok (.inr w) h := by rfl
@[simp] theorem v_call (f : Str) (es : Mes) : (ev C (.call f es)).v ℓ h = ((evs C es ℓ h).bind fun ws h => C.call f ws h) := by rfl
@[simp] theorem t_call (f : Str) (es : Mes) : (ev C (.call f es)).t ℓ h = (((evs C es ℓ h).bind fun ws h => C.call f ws h) : R W).bind fun w h => truR h w := by rfl
@[simp] theorem l_call (f : Str) (es : Mes) : (ev C (.call f es)).l ℓ h = (((evs C es ℓ h).bind fun ws h => C.call f ws h) : R W).bind fun w h => seqR h w := by rfl
@[simp] theorem o_call (f : Str) (es : Mes) : (ev C (.call f es)).opd ℓ h = (((evs C es ℓ h).bind fun ws h => C.call f ws h) : R W).bind fun w h => .ok (.inr w) h := by rfl
@[simp] theorem v_isi (a : Me) (ts : List String) : (ev C (.isi a ts)).v ℓ h = (((ev C a).v ℓ h).bind fun w h => isiW ts w h) := by rfl
@[simp] theorem t_isi (a : Me) (ts : List String) : (ev C (.isi a ts)).t ℓ h = ((((ev C a).v ℓ h).bind fun w h => isiW ts w h) : R W).bind fun w h => truR h w := by rfl
@[simp] theorem l_isi (a : Me) (ts : List String) : (ev C (.isi a ts)).l ℓ h = ((((ev C a).v ℓ h).bind fun w h => isiW ts w h) : R W).bind fun w h => seqR h w := by rfl
@[simp] theorem o_isi (a : Me) (ts : List String) : (ev C (.isi a ts)).opd ℓ h = ((((ev C a).v ℓ h).bind fun w h => isiW ts w h) : R W).bind fun w h => .ok (.inr w) h := by rfl
@[simp] theorem v_sub (a i : Me) : (ev C (.sub a i)).v ℓ h = (((ev C a).opd ℓ h).bind fun x h => ((ev C i).v ℓ h).bind fun y h => subO x y h) := by rfl
@[simp] theorem t_sub (a i : Me) : (ev C (.sub a i)).t ℓ h = ((((ev C a).opd ℓ h).bind fun x h => ((ev C i).v ℓ h).bind fun y h => subO x y h) : R W).bind fun w h => truR h w := by rfl
@[simp] theorem l_sub (a i : Me) : (ev C (.sub a i)).l ℓ h = ((((ev C a).opd ℓ h).bind fun x h => ((ev C i).v ℓ h).bind fun y h => subO x y h) : R W).bind fun w h => seqR h w := by rfl
@[simp] theorem o_sub (a i : Me) : (ev C (.sub a i)).opd ℓ h = ((((ev C a).opd ℓ h).bind fun x h => ((ev C i).v ℓ h).bind fun y h => subO x y h) : R W).bind fun w h => .ok (.inr w) h := by rfl
@[simp] theorem v_p1 (o : P1) (a : Me) : (ev C (.p1 o a)).v ℓ h = (((ev C a).opd ℓ h).bind fun x h => p1R o x h) := by rfl
@[simp] theorem t_p1 (o : P1) (a : Me) : (ev C (.p1 o a)).t ℓ h = ((((ev C a).opd ℓ h).bind fun x h => p1R o x h) : R W).bind fun w h => truR h w := by rfl
@[simp] theorem l_p1 (o : P1) (a : Me) : (ev C (.p1 o a)).l ℓ h = ((((ev C a).opd ℓ h).bind fun x h => p1R o x h) : R W).bind fun w h => seqR h w := by rfl
@[simp] theorem o_p1 (o : P1) (a : Me) : (ev C (.p1 o a)).opd ℓ h = ((((ev C a).opd ℓ h).bind fun x h => p1R o x h) : R W).bind fun w h => .ok (.inr w) h := by rfl
@[simp] theorem v_attr (a : Me) (f : Str) : (ev C (.attr a f)).v ℓ h = (((ev C a).v ℓ h).bind fun x h => attW C x f h) := by rfl
@[simp] theorem t_attr (a : Me) (f : Str) : (ev C (.attr a f)).t ℓ h = ((((ev C a).v ℓ h).bind fun x h => attW C x f h) : R W).bind fun w h => truR h w := by rfl
@[simp] theorem l_attr (a : Me) (f : Str) : (ev C (.attr a f)).l ℓ h = ((((ev C a).v ℓ h).bind fun x h => attW C x f h) : R W).bind fun w h => seqR h w := by rfl
@[simp] theorem o_attr (a : Me) (f : Str) : (ev C (.attr a f)).opd ℓ h = ((((ev C a).v ℓ h).bind fun x h => attW C x f h) : R W).bind fun w h => .ok (.inr w) h := by rfl
@[simp] theorem v_dg1 (d k : Me) : (ev C (.dg1 d k)).v ℓ h = (((ev C d).v ℓ h).bind fun x h => chk (dctW h x).isSome (((ev C k).v ℓ h).bind fun y h => (ofO (dgetW h x y) h).bind fun o h => .ok (o.getD .non) h)) := by rfl
@[simp] theorem t_dg1 (d k : Me) : (ev C (.dg1 d k)).t ℓ h = ((((ev C d).v ℓ h).bind fun x h => chk (dctW h x).isSome (((ev C k).v ℓ h).bind fun y h => (ofO (dgetW h x y) h).bind fun o h => .ok (o.getD .non) h)) : R W).bind fun w h => truR h w := by rfl
@[simp] theorem l_dg1 (d k : Me) : (ev C (.dg1 d k)).l ℓ h = ((((ev C d).v ℓ h).bind fun x h => chk (dctW h x).isSome (((ev C k).v ℓ h).bind fun y h => (ofO (dgetW h x y) h).bind fun o h => .ok (o.getD .non) h)) : R W).bind fun w h => seqR h w := by rfl
@[simp] theorem o_dg1 (d k : Me) : (ev C (.dg1 d k)).opd ℓ h = ((((ev C d).v ℓ h).bind fun x h => chk (dctW h x).isSome (((ev C k).v ℓ h).bind fun y h => (ofO (dgetW h x y) h).bind fun o h => .ok (o.getD .non) h)) : R W).bind fun w h => .ok (.inr w) h := by rfl
@[simp] theorem v_dg2 (d k e : Me) : (ev C (.dg2 d k e)).v ℓ h = (((ev C d).v ℓ h).bind fun x h => chk (dctW h x).isSome (((ev C k).v ℓ h).bind fun y h => ((ev C e).v ℓ h).bind fun z h => (ofO (dgetW h x y) h).bind fun o h => .ok (o.getD z) h)) := by rfl
@[simp] theorem t_dg2 (d k e : Me) : (ev C (.dg2 d k e)).t ℓ h = ((((ev C d).v ℓ h).bind fun x h => chk (dctW h x).isSome (((ev C k).v ℓ h).bind fun y h => ((ev C e).v ℓ h).bind fun z h => (ofO (dgetW h x y) h).bind fun o h => .ok (o.getD z) h)) : R W).bind fun w h => truR h w := by rfl
@[simp] theorem l_dg2 (d k e : Me) : (ev C (.dg2 d k e)).l ℓ h = ((((ev C d).v ℓ h).bind fun x h => chk (dctW h x).isSome (((ev C k).v ℓ h).bind fun y h => ((ev C e).v ℓ h).bind fun z h => (ofO (dgetW h x y) h).bind fun o h => .ok (o.getD z) h)) : R W).bind fun w h => seqR h w := by rfl
@[simp] theorem o_dg2 (d k e : Me) : (ev C (.dg2 d k e)).opd ℓ h = ((((ev C d).v ℓ h).bind fun x h => chk (dctW h x).isSome (((ev C k).v ℓ h).bind fun y h => ((ev C e).v ℓ h).bind fun z h => (ofO (dgetW h x y) h).bind fun o h => .ok (o.getD z) h)) : R W).bind fun w h => .ok (.inr w) h := by rfl
@[simp] theorem v_dix (d k : Me) : (ev C (.dix d k)).v ℓ h = (((ev C d).v ℓ h).bind fun x h => ((ev C k).v ℓ h).bind fun y h => (ofO (dgetW h x y) h).bind fun o h => ofO o h) := by rfl
@[simp] theorem t_dix (d k : Me) : (ev C (.dix d k)).t ℓ h = ((((ev C d).v ℓ h).bind fun x h => ((ev C k).v ℓ h).bind fun y h => (ofO (dgetW h x y) h).bind fun o h => ofO o h) : R W).bind fun w h => truR h w := by rfl
@[simp] theorem l_dix (d k : Me) : (ev C (.dix d k)).l ℓ h = ((((ev C d).v ℓ h).bind fun x h => ((ev C k).v ℓ h).bind fun y h => (ofO (dgetW h x y) h).bind fun o h => ofO o h) : R W).bind fun w h => seqR h w := by rfl
@[simp] theorem o_dix (d k : Me) : (ev C (.dix d k)).opd ℓ h = ((((ev C d).v ℓ h).bind fun x h => ((ev C k).v ℓ h).bind fun y h => (ofO (dgetW h x y) h).bind fun o h => ofO o h) : R W).bind fun w h => .ok (.inr w) h := by rfl
@[simp] theorem v_int1 (a : Me) : (ev C (.int1 a)).v ℓ h = (((ev C a).v ℓ h).bind fun w h => intI w h) := by rfl
@[simp] theorem t_int1 (a : Me) : (ev C (.int1 a)).t ℓ h = ((((ev C a).v ℓ h).bind fun w h => intI w h) : R W).bind fun w h => truR h w := by rfl
@[simp] theorem l_int1 (a : Me) : (ev C (.int1 a)).l ℓ h = ((((ev C a).v ℓ h).bind fun w h => intI w h) : R W).bind fun w h => seqR h w := by rfl
@[simp] theorem o_int1 (a : Me) : (ev C (.int1 a)).opd ℓ h = ((((ev C a).v ℓ h).bind fun w h => intI w h) : R W).bind fun w h => .ok (.inr w) h := by rfl
@[simp] theorem v_isc (a : Me) (c : Str) : (ev C (.isc a c)).v ℓ h = (chk (C.isk c) (((ev C a).v ℓ h).bind fun w h => iscW C w c h)) := by rfl
@[simp] theorem t_isc (a : Me) (c : Str) : (ev C (.isc a c)).t ℓ h = ((chk (C.isk c) (((ev C a).v ℓ h).bind fun w h => iscW C w c h)) : R W).bind fun w h => truR h w := by rfl
@[simp] theorem l_isc (a : Me) (c : Str) : (ev C (.isc a c)).l ℓ h = ((chk (C.isk c) (((ev C a).v ℓ h).bind fun w h => iscW C w c h)) : R W).bind fun w h => seqR h w := by rfl
@[simp] theorem o_isc (a : Me) (c : Str) : (ev C (.isc a c)).opd ℓ h = ((chk (C.isk c) (((ev C a).v ℓ h).bind fun w h => iscW C w c h)) : R W).bind fun w h => .ok (.inr w) h := by rfl
@[simp] theorem v_isx (a : Me) (ts : List String) : (ev C (.isx a ts)).v ℓ h = (((ev C a).v ℓ h).bind fun w h => isxW C ts w h) := by rfl
@[simp] theorem t_isx (a : Me) (ts : List String) : (ev C (.isx a ts)).t ℓ h = ((((ev C a).v ℓ h).bind fun w h => isxW C ts w h) : R W).bind fun w h => truR h w := by rfl
@[simp] theorem l_isx (a : Me) (ts : List String) : (ev C (.isx a ts)).l ℓ h = ((((ev C a).v ℓ h).bind fun w h => isxW C ts w h) : R W).bind fun w h => seqR h w := by rfl
@[simp] theorem o_isx (a : Me) (ts : List String) : (ev C (.isx a ts)).opd ℓ h = ((((ev C a).v ℓ h).bind fun w h => isxW C ts w h) : R W).bind fun w h => .ok (.inr w) h := by rfl
@[simp] theorem v_olen (a : Me) : (ev C (.olen a)).v ℓ h = (((ev C a).v ℓ h).bind fun x h => (spcW C x "__len__" [] h).bind fun w h => lenI w h) := by rfl
@[simp] theorem t_olen (a : Me) : (ev C (.olen a)).t ℓ h = ((((ev C a).v ℓ h).bind fun x h => (spcW C x "__len__" [] h).bind fun w h => lenI w h) : R W).bind fun w h => truR h w := by rfl
@[simp] theorem l_olen (a : Me) : (ev C (.olen a)).l ℓ h = ((((ev C a).v ℓ h).bind fun x h => (spcW C x "__len__" [] h).bind fun w h => lenI w h) : R W).bind fun w h => seqR h w := by rfl
@[simp] theorem o_olen (a : Me) : (ev C (.olen a)).opd ℓ h = ((((ev C a).v ℓ h).bind fun x h => (spcW C x "__len__" [] h).bind fun w h => lenI w h) : R W).bind fun w h => .ok (.inr w) h := by rfl
@[simp] theorem v_callf (f : Str) (es : Mes) (ks : List Str) (kes : Mes) : (ev C (.callf f es ks kes)).v ℓ h = (chk (C.kn f) ((evs C es ℓ h).bind fun ws h => (evs C kes ℓ h).bind fun zs h => callA C.call C.frm f ws.length ks (ws ++ zs) h)) := by rfl
@[simp] theorem t_callf (f : Str) (es : Mes) (ks : List Str) (kes : Mes) : (ev C (.callf f es ks kes)).t ℓ h = ((chk (C.kn f) ((evs C es ℓ h).bind fun ws h => (evs C kes ℓ h).bind fun zs h => callA C.call C.frm f ws.length ks (ws ++ zs) h)) : R W).bind fun w h => truR h w := by rfl
@[simp] theorem l_callf (f : Str) (es : Mes) (ks : List Str) (kes : Mes) : (ev C (.callf f es ks kes)).l ℓ h = ((chk (C.kn f) ((evs C es ℓ h).bind fun ws h => (evs C kes ℓ h).bind fun zs h => callA C.call C.frm f ws.length ks (ws ++ zs) h)) : R W).bind fun w h => seqR h w := by rfl
@[simp] theorem o_callf (f : Str) (es : Mes) (ks : List Str) (kes : Mes) : (ev C (.callf f es ks kes)).opd ℓ h = ((chk (C.kn f) ((evs C es ℓ h).bind fun ws h => (evs C kes ℓ h).bind fun zs h => callA C.call C.frm f ws.length ks (ws ++ zs) h)) : R W).bind fun w h => .ok (.inr w) h := by rfl
@[simp] theorem v_meth (a : Me) (m : Str) (es : Mes) (ks : List Str) (kes : Mes) : (ev C (.meth a m es ks kes)).v ℓ h = (((ev C a).v ℓ h).bind fun x h => (ofO (metW C x m h) h).bind fun g h => (evs C es ℓ h).bind fun ws h => (evs C kes ℓ h).bind fun zs h => callA C.call C.frm g (ws.length + 1) ks (x :: (ws ++ zs)) h) := by rfl
@[simp] theorem t_meth (a : Me) (m : Str) (es : Mes) (ks : List Str) (kes : Mes) : (ev C (.meth a m es ks kes)).t ℓ h = ((((ev C a).v ℓ h).bind fun x h => (ofO (metW C x m h) h).bind fun g h => (evs C es ℓ h).bind fun ws h => (evs C kes ℓ h).bind fun zs h => callA C.call C.frm g (ws.length + 1) ks (x :: (ws ++ zs)) h) : R W).bind fun w h => truR h w := by rfl
@[simp] theorem l_meth (a : Me) (m : Str) (es : Mes) (ks : List Str) (kes : Mes) : (ev C (.meth a m es ks kes)).l ℓ h = ((((ev C a).v ℓ h).bind fun x h => (ofO (metW C x m h) h).bind fun g h => (evs C es ℓ h).bind fun ws h => (evs C kes ℓ h).bind fun zs h => callA C.call C.frm g (ws.length + 1) ks (x :: (ws ++ zs)) h) : R W).bind fun w h => seqR h w := by rfl
@[simp] theorem o_meth (a : Me) (m : Str) (es : Mes) (ks : List Str) (kes : Mes) : (ev C (.meth a m es ks kes)).opd ℓ h = ((((ev C a).v ℓ h).bind fun x h => (ofO (metW C x m h) h).bind fun g h => (evs C es ℓ h).bind fun ws h => (evs C kes ℓ h).bind fun zs h => callA C.call C.frm g (ws.length + 1) ks (x :: (ws ++ zs)) h) : R W).bind fun w h => .ok (.inr w) h := by rfl
@[simp] theorem v_new (c : Str) (es : Mes) (ks : List Str) (kes : Mes) : (ev C (.new c es ks kes)).v ℓ h = ((ofO (C.inn c) h).bind fun g h => (evs C es ℓ h).bind fun ws h => (evs C kes ℓ h).bind fun zs h => newW C c g (ws.length + 1) ks (ws ++ zs) h) := by rfl
@[simp] theorem t_new (c : Str) (es : Mes) (ks : List Str) (kes : Mes) : (ev C (.new c es ks kes)).t ℓ h = (((ofO (C.inn c) h).bind fun g h => (evs C es ℓ h).bind fun ws h => (evs C kes ℓ h).bind fun zs h => newW C c g (ws.length + 1) ks (ws ++ zs) h) : R W).bind fun w h => truR h w := by rfl
@[simp] theorem l_new (c : Str) (es : Mes) (ks : List Str) (kes : Mes) : (ev C (.new c es ks kes)).l ℓ h = (((ofO (C.inn c) h).bind fun g h => (evs C es ℓ h).bind fun ws h => (evs C kes ℓ h).bind fun zs h => newW C c g (ws.length + 1) ks (ws ++ zs) h) : R W).bind fun w h => seqR h w := by rfl
@[simp] theorem o_new (c : Str) (es : Mes) (ks : List Str) (kes : Mes) : (ev C (.new c es ks kes)).opd ℓ h = (((ofO (C.inn c) h).bind fun g h => (evs C es ℓ h).bind fun ws h => (evs C kes ℓ h).bind fun zs h => newW C c g (ws.length + 1) ks (ws ++ zs) h) : R W).bind fun w h => .ok (.inr w) h := by rfl
@[simp] theorem v_slice (a : Me) (lo hi : Mo) : (ev C (.slice a lo hi)).v ℓ h = (((ev C a).v ℓ h).bind fun x h => (evo C lo ℓ h).bind fun l h => (evo C hi ℓ h).bind fun u h => sliceW x l u h) := by rfl
@[simp] theorem t_slice (a : Me) (lo hi : Mo) : (ev C (.slice a lo hi)).t ℓ h = ((((ev C a).v ℓ h).bind fun x h => (evo C lo ℓ h).bind fun l h => (evo C hi ℓ h).bind fun u h => sliceW x l u h) : R W).bind fun w h => truR h w := by rfl
@[simp] theorem l_slice (a : Me) (lo hi : Mo) : (ev C (.slice a lo hi)).l ℓ h = ((((ev C a).v ℓ h).bind fun x h => (evo C lo ℓ h).bind fun l h => (evo C hi ℓ h).bind fun u h => sliceW x l u h) : R W).bind fun w h => seqR h w := by rfl
@[simp] theorem o_slice (a : Me) (lo hi : Mo) : (ev C (.slice a lo hi)).opd ℓ h = ((((ev C a).v ℓ h).bind fun x h => (evo C lo ℓ h).bind fun l h => (evo C hi ℓ h).bind fun u h => sliceW x l u h) : R W).bind fun w h => .ok (.inr w) h := by rfl
@[simp] theorem v_lst (es : Mes) : (ev C (.lst es)).v ℓ h = (((evs C es ℓ h).bind fun ws h => chk (decide (ws.length ≤ sizeLine)) (.ok ws h)) : R (List W)).bind fun ws h => alloc (.lst ws) h := by rfl
@[simp] theorem t_lst (es : Mes) : (ev C (.lst es)).t ℓ h = (((evs C es ℓ h).bind fun ws h => chk (decide (ws.length ≤ sizeLine)) (.ok ws h)) : R (List W)).bind fun ws h => .ok (!ws.isEmpty) h := by rfl
@[simp] theorem l_lst (es : Mes) : (ev C (.lst es)).l ℓ h = ((evs C es ℓ h).bind fun ws h => chk (decide (ws.length ≤ sizeLine)) (.ok ws h)) := by rfl
@[simp] theorem o_lst (es : Mes) : (ev C (.lst es)).opd ℓ h = (((evs C es ℓ h).bind fun ws h => chk (decide (ws.length ≤ sizeLine)) (.ok ws h)) : R (List W)).bind fun ws h => .ok (.inl ws) h := by rfl
@[simp] theorem v_lrep (a n : Me) : (ev C (.lrep a n)).v ℓ h = ((((ev C a).l ℓ h).bind fun ws h => ((ev C n).v ℓ h).bind fun y h => repW ws y h) : R (List W)).bind fun ws h => alloc (.lst ws) h := by rfl
@[simp] theorem t_lrep (a n : Me) : (ev C (.lrep a n)).t ℓ h = ((((ev C a).l ℓ h).bind fun ws h => ((ev C n).v ℓ h).bind fun y h => repW ws y h) : R (List W)).bind fun ws h => .ok (!ws.isEmpty) h := by rfl
@[simp] theorem l_lrep (a n : Me) : (ev C (.lrep a n)).l ℓ h = (((ev C a).l ℓ h).bind fun ws h => ((ev C n).v ℓ h).bind fun y h => repW ws y h) := by rfl
@[simp] theorem o_lrep (a n : Me) : (ev C (.lrep a n)).opd ℓ h = ((((ev C a).l ℓ h).bind fun ws h => ((ev C n).v ℓ h).bind fun y h => repW ws y h) : R (List W)).bind fun ws h => .ok (.inl ws) h := by rfl
@[simp] theorem v_lcat (a b : Me) : (ev C (.lcat a b)).v ℓ h = ((((ev C a).opd ℓ h).bind fun x h => ((ev C b).opd ℓ h).bind fun y h => (lsqO h x).bind fun xs h => (lsqO h y).bind fun ys h => chk (decide (xs.length + ys.length ≤ sizeLine)) (.ok (xs ++ ys) h)) : R (List W)).bind fun ws h => alloc (.lst ws) h := by rfl
@[simp] theorem t_lcat (a b : Me) : (ev C (.lcat a b)).t ℓ h = ((((ev C a).opd ℓ h).bind fun x h => ((ev C b).opd ℓ h).bind fun y h => (lsqO h x).bind fun xs h => (lsqO h y).bind fun ys h => chk (decide (xs.length + ys.length ≤ sizeLine)) (.ok (xs ++ ys) h)) : R (List W)).bind fun ws h => .ok (!ws.isEmpty) h := by rfl
@[simp] theorem l_lcat (a b : Me) : (ev C (.lcat a b)).l ℓ h = (((ev C a).opd ℓ h).bind fun x h => ((ev C b).opd ℓ h).bind fun y h => (lsqO h x).bind fun xs h => (lsqO h y).bind fun ys h => chk (decide (xs.length + ys.length ≤ sizeLine)) (.ok (xs ++ ys) h)) := by rfl
@[simp] theorem o_lcat (a b : Me) : (ev C (.lcat a b)).opd ℓ h = ((((ev C a).opd ℓ h).bind fun x h => ((ev C b).opd ℓ h).bind fun y h => (lsqO h x).bind fun xs h => (lsqO h y).bind fun ys h => chk (decide (xs.length + ys.length ≤ sizeLine)) (.ok (xs ++ ys) h)) : R (List W)).bind fun ws h => .ok (.inl ws) h := by rfl
@[simp] theorem v_lcut (a : Me) (lo hi : Mo) : (ev C (.lcut a lo hi)).v ℓ h = ((((ev C a).opd ℓ h).bind fun x h => (evo C lo ℓ h).bind fun l h => (evo C hi ℓ h).bind fun u h => (lsqO h x).bind fun ws h => .ok (cutW ws l u) h) : R (List W)).bind fun ws h => alloc (.lst ws) h := by rfl
@[simp] theorem t_lcut (a : Me) (lo hi : Mo) : (ev C (.lcut a lo hi)).t ℓ h = ((((ev C a).opd ℓ h).bind fun x h => (evo C lo ℓ h).bind fun l h => (evo C hi ℓ h).bind fun u h => (lsqO h x).bind fun ws h => .ok (cutW ws l u) h) : R (List W)).bind fun ws h => .ok (!ws.isEmpty) h := by rfl
@[simp] theorem l_lcut (a : Me) (lo hi : Mo) : (ev C (.lcut a lo hi)).l ℓ h = (((ev C a).opd ℓ h).bind fun x h => (evo C lo ℓ h).bind fun l h => (evo C hi ℓ h).bind fun u h => (lsqO h x).bind fun ws h => .ok (cutW ws l u) h) := by rfl
@[simp] theorem o_lcut (a : Me) (lo hi : Mo) : (ev C (.lcut a lo hi)).opd ℓ h = ((((ev C a).opd ℓ h).bind fun x h => (evo C lo ℓ h).bind fun l h => (evo C hi ℓ h).bind fun u h => (lsqO h x).bind fun ws h => .ok (cutW ws l u) h) : R (List W)).bind fun ws h => .ok (.inl ws) h := by rfl
@[simp] theorem v_rev (a : Me) : (ev C (.rev a)).v ℓ h = ((((ev C a).opd ℓ h).bind fun x h => (lsqO h x).bind fun ws h => .ok ws.reverse h) : R (List W)).bind fun ws h => alloc (.lst ws) h := by rfl
@[simp] theorem t_rev (a : Me) : (ev C (.rev a)).t ℓ h = ((((ev C a).opd ℓ h).bind fun x h => (lsqO h x).bind fun ws h => .ok ws.reverse h) : R (List W)).bind fun ws h => .ok (!ws.isEmpty) h := by rfl
@[simp] theorem l_rev (a : Me) : (ev C (.rev a)).l ℓ h = (((ev C a).opd ℓ h).bind fun x h => (lsqO h x).bind fun ws h => .ok ws.reverse h) := by rfl
@[simp] theorem o_rev (a : Me) : (ev C (.rev a)).opd ℓ h = ((((ev C a).opd ℓ h).bind fun x h => (lsqO h x).bind fun ws h => .ok ws.reverse h) : R (List W)).bind fun ws h => .ok (.inl ws) h := by rfl
@[simp] theorem v_srt (a : Me) : (ev C (.srt a)).v ℓ h = ((((ev C a).opd ℓ h).bind fun x h => srtO h x) : R (List W)).bind fun ws h => alloc (.lst ws) h := by rfl
@[simp] theorem t_srt (a : Me) : (ev C (.srt a)).t ℓ h = ((((ev C a).opd ℓ h).bind fun x h => srtO h x) : R (List W)).bind fun ws h => .ok (!ws.isEmpty) h := by rfl
@[simp] theorem l_srt (a : Me) : (ev C (.srt a)).l ℓ h = (((ev C a).opd ℓ h).bind fun x h => srtO h x) := by rfl
@[simp] theorem o_srt (a : Me) : (ev C (.srt a)).opd ℓ h = ((((ev C a).opd ℓ h).bind fun x h => srtO h x) : R (List W)).bind fun ws h => .ok (.inl ws) h := by rfl
@[simp] theorem v_lcomp (elt : Me) (tg : Mt) (src : Mi) (ifs : Mo) (own : List Nat) : (ev C (.lcomp elt tg src ifs own)).v ℓ h = (((evi C src ℓ h).bind fun r h => lcLoop (lcBody C elt tg ifs (wipeL ℓ own)) r.2 0 r.1 h) : R (List W)).bind fun ws h => alloc (.lst ws) h := by rfl
@[simp] theorem t_lcomp (elt : Me) (tg : Mt) (src : Mi) (ifs : Mo) (own : List Nat) : (ev C (.lcomp elt tg src ifs own)).t ℓ h = (((evi C src ℓ h).bind fun r h => lcLoop (lcBody C elt tg ifs (wipeL ℓ own)) r.2 0 r.1 h) : R (List W)).bind fun ws h => .ok (!ws.isEmpty) h := by rfl
@[simp] theorem l_lcomp (elt : Me) (tg : Mt) (src : Mi) (ifs : Mo) (own : List Nat) : (ev C (.lcomp elt tg src ifs own)).l ℓ h = ((evi C src ℓ h).bind fun r h => lcLoop (lcBody C elt tg ifs (wipeL ℓ own)) r.2 0 r.1 h) := by rfl
@[simp] theorem o_lcomp (elt : Me) (tg : Mt) (src : Mi) (ifs : Mo) (own : List Nat) : (ev C (.lcomp elt tg src ifs own)).opd ℓ h = (((evi C src ℓ h).bind fun r h => lcLoop (lcBody C elt tg ifs (wipeL ℓ own)) r.2 0 r.1 h) : R (List W)).bind fun ws h => .ok (.inl ws) h := by rfl
@[simp] theorem v_not (a : Me) : (ev C (.not a)).v ℓ h = (((ev C a).v ℓ h).bind fun w h => (truR h w).bind fun b h => .ok (.bl (!b)) h) := by rfl
@[simp] theorem t_not (a : Me) : (ev C (.not a)).t ℓ h = (((ev C a).t ℓ h).bind fun b h => .ok (!b) h) := by rfl
@[simp] theorem l_not (a : Me) : (ev C (.not a)).l ℓ h = ((((ev C a).v ℓ h).bind fun w h => (truR h w).bind fun b h => .ok (.bl (!b)) h) : R W).bind fun w h => seqR h w := by rfl
@[simp] theorem o_not (a : Me) : (ev C (.not a)).opd ℓ h = ((((ev C a).v ℓ h).bind fun w h => (truR h w).bind fun b h => .ok (.bl (!b)) h) : R W).bind fun w h => .ok (.inr w) h := by rfl
@[simp] theorem v_cmp (op : CmpOp) (a b : Me) : (ev C (.cmp op a b)).v ℓ h = (((ev C a).opd ℓ h).bind fun x h => ((ev C b).opd ℓ h).bind fun y h => cmpO op x y h) := by rfl
@[simp] theorem t_cmp (op : CmpOp) (a b : Me) : (ev C (.cmp op a b)).t ℓ h = (unBl (((ev C a).opd ℓ h).bind fun x h => ((ev C b).opd ℓ h).bind fun y h => cmpO op x y h)) := by rfl
@[simp] theorem l_cmp (op : CmpOp) (a b : Me) : (ev C (.cmp op a b)).l ℓ h = ((((ev C a).opd ℓ h).bind fun x h => ((ev C b).opd ℓ h).bind fun y h => cmpO op x y h) : R W).bind fun w h => seqR h w := by rfl
@[simp] theorem o_cmp (op : CmpOp) (a b : Me) : (ev C (.cmp op a b)).opd ℓ h = ((((ev C a).opd ℓ h).bind fun x h => ((ev C b).opd ℓ h).bind fun y h => cmpO op x y h) : R W).bind fun w h => .ok (.inr w) h := by rfl
@[simp] theorem v_oin (neg : Bool) (a b : Me) : (ev C (.oin neg a b)).v ℓ h = (((ev C a).v ℓ h).bind fun x h => ((ev C b).v ℓ h).bind fun y h => (spcW C y "__contains__" [x] h).bind fun w h => notI neg w h) := by rfl
@[simp] theorem t_oin (neg : Bool) (a b : Me) : (ev C (.oin neg a b)).t ℓ h = (unBl (((ev C a).v ℓ h).bind fun x h => ((ev C b).v ℓ h).bind fun y h => (spcW C y "__contains__" [x] h).bind fun w h => notI neg w h)) := by rfl
@[simp] theorem l_oin (neg : Bool) (a b : Me) : (ev C (.oin neg a b)).l ℓ h = ((((ev C a).v ℓ h).bind fun x h => ((ev C b).v ℓ h).bind fun y h => (spcW C y "__contains__" [x] h).bind fun w h => notI neg w h) : R W).bind fun w h => seqR h w := by rfl
@[simp] theorem o_oin (neg : Bool) (a b : Me) : (ev C (.oin neg a b)).opd ℓ h = ((((ev C a).v ℓ h).bind fun x h => ((ev C b).v ℓ h).bind fun y h => (spcW C y "__contains__" [x] h).bind fun w h => notI neg w h) : R W).bind fun w h => .ok (.inr w) h := by rfl
@[simp] theorem v_chain (op1 op2 : CmpOp) (a b c : Me) : (ev C (.chain op1 op2 a b c)).v ℓ h = (((ev C a).v ℓ h).bind fun x h => ((ev C b).v ℓ h).bind fun y h => (unBl (cmpW op1 x y h)).bind fun k h => ifR k (((ev C c).v ℓ h).bind fun z h => cmpW op2 y z h) (.ok (.bl false) h)) := by rfl
@[simp] theorem t_chain (op1 op2 : CmpOp) (a b c : Me) : (ev C (.chain op1 op2 a b c)).t ℓ h = (unBl (((ev C a).v ℓ h).bind fun x h => ((ev C b).v ℓ h).bind fun y h => (unBl (cmpW op1 x y h)).bind fun k h => ifR k (((ev C c).v ℓ h).bind fun z h => cmpW op2 y z h) (.ok (.bl false) h))) := by rfl
@[simp] theorem l_chain (op1 op2 : CmpOp) (a b c : Me) : (ev C (.chain op1 op2 a b c)).l ℓ h = ((((ev C a).v ℓ h).bind fun x h => ((ev C b).v ℓ h).bind fun y h => (unBl (cmpW op1 x y h)).bind fun k h => ifR k (((ev C c).v ℓ h).bind fun z h => cmpW op2 y z h) (.ok (.bl false) h)) : R W).bind fun w h => seqR h w := by rfl
@[simp] theorem o_chain (op1 op2 : CmpOp) (a b c : Me) : (ev C (.chain op1 op2 a b c)).opd ℓ h = ((((ev C a).v ℓ h).bind fun x h => ((ev C b).v ℓ h).bind fun y h => (unBl (cmpW op1 x y h)).bind fun k h => ifR k (((ev C c).v ℓ h).bind fun z h => cmpW op2 y z h) (.ok (.bl false) h)) : R W).bind fun w h => .ok (.inr w) h := by rfl
@[simp] theorem v_ife (c a b : Me) : (ev C (.ife c a b)).v ℓ h = (((ev C c).t ℓ h).bind fun k h => ifR k ((ev C a).v ℓ h) ((ev C b).v ℓ h)) := by rfl
@[simp] theorem t_ife (c a b : Me) : (ev C (.ife c a b)).t ℓ h = (((ev C c).t ℓ h).bind fun k h => ifR k ((ev C a).t ℓ h) ((ev C b).t ℓ h)) := by rfl
@[simp] theorem l_ife (c a b : Me) : (ev C (.ife c a b)).l ℓ h = ((((ev C c).t ℓ h).bind fun k h => ifR k ((ev C a).v ℓ h) ((ev C b).v ℓ h)) : R W).bind fun w h => seqR h w := by rfl
@[simp] theorem o_ife (c a b : Me) : (ev C (.ife c a b)).opd ℓ h = ((((ev C c).t ℓ h).bind fun k h => ifR k ((ev C a).v ℓ h) ((ev C b).v ℓ h)) : R W).bind fun w h => .ok (.inr w) h := by rfl
@[simp] theorem v_b2And (a b : Me) : (ev C (.boolop .And (.cons a (.cons b .nil)))).v ℓ h = (((ev C a).v ℓ h).bind fun w h => (truR h w).bind fun k h => ifR k ((ev C b).v ℓ h) (.ok w h)) := by rfl
@[simp] theorem t_b2And (a b : Me) : (ev C (.boolop .And (.cons a (.cons b .nil)))).t ℓ h = (((ev C a).t ℓ h).bind fun k h => ifR k ((ev C b).t ℓ h) (.ok false h)) := by rfl
@[simp] theorem l_b2And (a b : Me) : (ev C (.boolop .And (.cons a (.cons b .nil)))).l ℓ h = ((((ev C a).v ℓ h).bind fun w h => (truR h w).bind fun k h => ifR k ((ev C b).v ℓ h) (.ok w h)) : R W).bind fun w h => seqR h w := by rfl
@[simp] theorem o_b2And (a b : Me) : (ev C (.boolop .And (.cons a (.cons b .nil)))).opd ℓ h = ((((ev C a).v ℓ h).bind fun w h => (truR h w).bind fun k h => ifR k ((ev C b).v ℓ h) (.ok w h)) : R W).bind fun w h => .ok (.inr w) h := by rfl
@[simp] theorem v_b3And (a b d : Me) (es : Mes) : (ev C (.boolop .And (.cons a (.cons b (.cons d es))))).v ℓ h = (((ev C a).v ℓ h).bind fun w h => (truR h w).bind fun k h => ifR k ((ev C (.boolop .And (.cons b (.cons d es)))).v ℓ h) (.ok w h)) := by rfl
@[simp] theorem t_b3And (a b d : Me) (es : Mes) : (ev C (.boolop .And (.cons a (.cons b (.cons d es))))).t ℓ h = (((ev C a).t ℓ h).bind fun k h => ifR k ((ev C (.boolop .And (.cons b (.cons d es)))).t ℓ h) (.ok false h)) := by rfl
@[simp] theorem l_b3And (a b d : Me) (es : Mes) : (ev C (.boolop .And (.cons a (.cons b (.cons d es))))).l ℓ h = ((((ev C a).v ℓ h).bind fun w h => (truR h w).bind fun k h => ifR k ((ev C (.boolop .And (.cons b (.cons d es)))).v ℓ h) (.ok w h)) : R W).bind fun w h => seqR h w := by rfl
@[simp] theorem o_b3And (a b d : Me) (es : Mes) : (ev C (.boolop .And (.cons a (.cons b (.cons d es))))).opd ℓ h = ((((ev C a).v ℓ h).bind fun w h => (truR h w).bind fun k h => ifR k ((ev C (.boolop .And (.cons b (.cons d es)))).v ℓ h) (.ok w h)) : R W).bind fun w h => .ok (.inr w) h := by rfl
@[simp] theorem v_b2Or (a b : Me) : (ev C (.boolop .Or (.cons a (.cons b .nil)))).v ℓ h = (((ev C a).v ℓ h).bind fun w h => (truR h w).bind fun k h => ifR k (.ok w h) ((ev C b).v ℓ h)) := by rfl
@[simp] theorem t_b2Or (a b : Me) : (ev C (.boolop .Or (.cons a (.cons b .nil)))).t ℓ h = (((ev C a).t ℓ h).bind fun k h => ifR k (.ok true h) ((ev C b).t ℓ h)) := by rfl
@[simp] theorem l_b2Or (a b : Me) : (ev C (.boolop .Or (.cons a (.cons b .nil)))).l ℓ h = ((((ev C a).v ℓ h).bind fun w h => (truR h w).bind fun k h => ifR k (.ok w h) ((ev C b).v ℓ h)) : R W).bind fun w h => seqR h w := by rfl
@[simp] theorem o_b2Or (a b : Me) : (ev C (.boolop .Or (.cons a (.cons b .nil)))).opd ℓ h = ((((ev C a).v ℓ h).bind fun w h => (truR h w).bind fun k h => ifR k (.ok w h) ((ev C b).v ℓ h)) : R W).bind fun w h => .ok (.inr w) h := by rfl
@[simp] theorem v_b3Or (a b d : Me) (es : Mes) : (ev C (.boolop .Or (.cons a (.cons b (.cons d es))))).v ℓ h = (((ev C a).v ℓ h).bind fun w h => (truR h w).bind fun k h => ifR k (.ok w h) ((ev C (.boolop .Or (.cons b (.cons d es)))).v ℓ h)) := by rfl
@[simp] theorem t_b3Or (a b d : Me) (es : Mes) : (ev C (.boolop .Or (.cons a (.cons b (.cons d es))))).t ℓ h = (((ev C a).t ℓ h).bind fun k h => ifR k (.ok true h) ((ev C (.boolop .Or (.cons b (.cons d es)))).t ℓ h)) := by rfl
@[simp] theorem l_b3Or (a b d : Me) (es : Mes) : (ev C (.boolop .Or (.cons a (.cons b (.cons d es))))).l ℓ h = ((((ev C a).v ℓ h).bind fun w h => (truR h w).bind fun k h => ifR k (.ok w h) ((ev C (.boolop .Or (.cons b (.cons d es)))).v ℓ h)) : R W).bind fun w h => seqR h w := by rfl
@[simp] theorem o_b3Or (a b d : Me) (es : Mes) : (ev C (.boolop .Or (.cons a (.cons b (.cons d es))))).opd ℓ h = ((((ev C a).v ℓ h).bind fun w h => (truR h w).bind fun k h => ifR k (.ok w h) ((ev C (.boolop .Or (.cons b (.cons d es)))).v ℓ h)) : R W).bind fun w h => .ok (.inr w) h := by rfl
@[simp] theorem v_k_len (e : Me) : (ev C (.blt "len" (.cons e .nil))).v ℓ h = (((ev C e).opd ℓ h).bind fun x h => lenO x h) := by rfl
@[simp] theorem t_k_len (e : Me) : (ev C (.blt "len" (.cons e .nil))).t ℓ h = (((((ev C e).opd ℓ h).bind fun x h => lenO x h) : R W).bind fun w h => truR h w) := by rfl
@[simp] theorem l_k_len (e : Me) : (ev C (.blt "len" (.cons e .nil))).l ℓ h = ((((ev C e).opd ℓ h).bind fun x h => lenO x h) : R W).bind fun w h => seqR h w := by rfl
@[simp] theorem o_k_len (e : Me) : (ev C (.blt "len" (.cons e .nil))).opd ℓ h = ((((ev C e).opd ℓ h).bind fun x h => lenO x h) : R W).bind fun w h => .ok (.inr w) h := by rfl
@[simp] theorem v_k_repr (e : Me) : (ev C (.blt "repr" (.cons e .nil))).v ℓ h = (((ev C e).opd ℓ h).bind fun x h => reprO h x) := by rfl
@[simp] theorem t_k_repr (e : Me) : (ev C (.blt "repr" (.cons e .nil))).t ℓ h = (((((ev C e).opd ℓ h).bind fun x h => reprO h x) : R W).bind fun w h => truR h w) := by rfl
@[simp] theorem l_k_repr (e : Me) : (ev C (.blt "repr" (.cons e .nil))).l ℓ h = ((((ev C e).opd ℓ h).bind fun x h => reprO h x) : R W).bind fun w h => seqR h w := by rfl
@[simp] theorem o_k_repr (e : Me) : (ev C (.blt "repr" (.cons e .nil))).opd ℓ h = ((((ev C e).opd ℓ h).bind fun x h => reprO h x) : R W).bind fun w h => .ok (.inr w) h := by rfl
@[simp] theorem v_k_abs (e : Me) : (ev C (.blt "abs" (.cons e .nil))).v ℓ h = (((ev C e).v ℓ h).bind fun w h => bltV "abs" [w] h) := by rfl
@[simp] theorem t_k_abs (e : Me) : (ev C (.blt "abs" (.cons e .nil))).t ℓ h = (((((ev C e).v ℓ h).bind fun w h => bltV "abs" [w] h) : R W).bind fun w h => truR h w) := by rfl
@[simp] theorem l_k_abs (e : Me) : (ev C (.blt "abs" (.cons e .nil))).l ℓ h = ((((ev C e).v ℓ h).bind fun w h => bltV "abs" [w] h) : R W).bind fun w h => seqR h w := by rfl
@[simp] theorem o_k_abs (e : Me) : (ev C (.blt "abs" (.cons e .nil))).opd ℓ h = ((((ev C e).v ℓ h).bind fun w h => bltV "abs" [w] h) : R W).bind fun w h => .ok (.inr w) h := by rfl
@[simp] theorem v_k_tuple (e : Me) : (ev C (.blt "tuple" (.cons e .nil))).v ℓ h = (((ev C e).l ℓ h).bind fun ws h => .ok (.tup ws) h) := by rfl
@[simp] theorem t_k_tuple (e : Me) : (ev C (.blt "tuple" (.cons e .nil))).t ℓ h = (((((ev C e).l ℓ h).bind fun ws h => .ok (.tup ws) h) : R W).bind fun w h => truR h w) := by rfl
@[simp] theorem l_k_tuple (e : Me) : (ev C (.blt "tuple" (.cons e .nil))).l ℓ h = ((((ev C e).l ℓ h).bind fun ws h => .ok (.tup ws) h) : R W).bind fun w h => seqR h w := by rfl
@[simp] theorem o_k_tuple (e : Me) : (ev C (.blt "tuple" (.cons e .nil))).opd ℓ h = ((((ev C e).l ℓ h).bind fun ws h => .ok (.tup ws) h) : R W).bind fun w h => .ok (.inr w) h := by rfl
@[simp] theorem v_k_all (e : Me) : (ev C (.blt "all" (.cons e .nil))).v ℓ h = (((ev C e).opd ℓ h).bind fun x h => (lsqO h x).bind fun ws h => bltL "all" ws h) := by rfl
@[simp] theorem t_k_all (e : Me) : (ev C (.blt "all" (.cons e .nil))).t ℓ h = (((((ev C e).opd ℓ h).bind fun x h => (lsqO h x).bind fun ws h => bltL "all" ws h) : R W).bind fun w h => truR h w) := by rfl
@[simp] theorem l_k_all (e : Me) : (ev C (.blt "all" (.cons e .nil))).l ℓ h = ((((ev C e).opd ℓ h).bind fun x h => (lsqO h x).bind fun ws h => bltL "all" ws h) : R W).bind fun w h => seqR h w := by rfl
@[simp] theorem o_k_all (e : Me) : (ev C (.blt "all" (.cons e .nil))).opd ℓ h = ((((ev C e).opd ℓ h).bind fun x h => (lsqO h x).bind fun ws h => bltL "all" ws h) : R W).bind fun w h => .ok (.inr w) h := by rfl
@[simp] theorem v_k_any (e : Me) : (ev C (.blt "any" (.cons e .nil))).v ℓ h = (((ev C e).opd ℓ h).bind fun x h => (lsqO h x).bind fun ws h => bltL "any" ws h) := by rfl
@[simp] theorem t_k_any (e : Me) : (ev C (.blt "any" (.cons e .nil))).t ℓ h = (((((ev C e).opd ℓ h).bind fun x h => (lsqO h x).bind fun ws h => bltL "any" ws h) : R W).bind fun w h => truR h w) := by rfl
@[simp] theorem l_k_any (e : Me) : (ev C (.blt "any" (.cons e .nil))).l ℓ h = ((((ev C e).opd ℓ h).bind fun x h => (lsqO h x).bind fun ws h => bltL "any" ws h) : R W).bind fun w h => seqR h w := by rfl
@[simp] theorem o_k_any (e : Me) : (ev C (.blt "any" (.cons e .nil))).opd ℓ h = ((((ev C e).opd ℓ h).bind fun x h => (lsqO h x).bind fun ws h => bltL "any" ws h) : R W).bind fun w h => .ok (.inr w) h := by rfl
@[simp] theorem v_k_sum (e : Me) : (ev C (.blt "sum" (.cons e .nil))).v ℓ h = (((ev C e).opd ℓ h).bind fun x h => (lsqO h x).bind fun ws h => bltL "sum" ws h) := by rfl
@[simp] theorem t_k_sum (e : Me) : (ev C (.blt "sum" (.cons e .nil))).t ℓ h = (((((ev C e).opd ℓ h).bind fun x h => (lsqO h x).bind fun ws h => bltL "sum" ws h) : R W).bind fun w h => truR h w) := by rfl
@[simp] theorem l_k_sum (e : Me) : (ev C (.blt "sum" (.cons e .nil))).l ℓ h = ((((ev C e).opd ℓ h).bind fun x h => (lsqO h x).bind fun ws h => bltL "sum" ws h) : R W).bind fun w h => seqR h w := by rfl
@[simp] theorem o_k_sum (e : Me) : (ev C (.blt "sum" (.cons e .nil))).opd ℓ h = ((((ev C e).opd ℓ h).bind fun x h => (lsqO h x).bind fun ws h => bltL "sum" ws h) : R W).bind fun w h => .ok (.inr w) h := by rfl
@[simp] theorem v_k_list (e : Me) : (ev C (.blt "list" (.cons e .nil))).v ℓ h = (((ev C e).l ℓ h) : R (List W)).bind fun ws h => alloc (.lst ws) h := by rfl
@[simp] theorem t_k_list (e : Me) : (ev C (.blt "list" (.cons e .nil))).t ℓ h = (((ev C e).l ℓ h) : R (List W)).bind fun ws h => .ok (!ws.isEmpty) h := by rfl
@[simp] theorem l_k_list (e : Me) : (ev C (.blt "list" (.cons e .nil))).l ℓ h = ((ev C e).l ℓ h) := by rfl
@[simp] theorem o_k_list (e : Me) : (ev C (.blt "list" (.cons e .nil))).opd ℓ h = (((ev C e).l ℓ h) : R (List W)).bind fun ws h => .ok (.inl ws) h := by rfl
@[simp] theorem v_k_max (a b : Me) : (ev C (.blt "max" (.cons a (.cons b .nil)))).v ℓ h = (((ev C a).v ℓ h).bind fun x h => ((ev C b).v ℓ h).bind fun y h => bltV "max" [x, y] h) := by rfl
@[simp] theorem t_k_max (a b : Me) : (ev C (.blt "max" (.cons a (.cons b .nil)))).t ℓ h = (((((ev C a).v ℓ h).bind fun x h => ((ev C b).v ℓ h).bind fun y h => bltV "max" [x, y] h) : R W).bind fun w h => truR h w) := by rfl
@[simp] theorem l_k_max (a b : Me) : (ev C (.blt "max" (.cons a (.cons b .nil)))).l ℓ h = ((((ev C a).v ℓ h).bind fun x h => ((ev C b).v ℓ h).bind fun y h => bltV "max" [x, y] h) : R W).bind fun w h => seqR h w := by rfl
@[simp] theorem o_k_max (a b : Me) : (ev C (.blt "max" (.cons a (.cons b .nil)))).opd ℓ h = ((((ev C a).v ℓ h).bind fun x h => ((ev C b).v ℓ h).bind fun y h => bltV "max" [x, y] h) : R W).bind fun w h => .ok (.inr w) h := by rfl
@[simp] theorem v_k_min (a b : Me) : (ev C (.blt "min" (.cons a (.cons b .nil)))).v ℓ h = (((ev C a).v ℓ h).bind fun x h => ((ev C b).v ℓ h).bind fun y h => bltV "min" [x, y] h) := by rfl
@[simp] theorem t_k_min (a b : Me) : (ev C (.blt "min" (.cons a (.cons b .nil)))).t ℓ h = (((((ev C a).v ℓ h).bind fun x h => ((ev C b).v ℓ h).bind fun y h => bltV "min" [x, y] h) : R W).bind fun w h => truR h w) := by rfl
@[simp] theorem l_k_min (a b : Me) : (ev C (.blt "min" (.cons a (.cons b .nil)))).l ℓ h = ((((ev C a).v ℓ h).bind fun x h => ((ev C b).v ℓ h).bind fun y h => bltV "min" [x, y] h) : R W).bind fun w h => seqR h w := by rfl
@[simp] theorem o_k_min (a b : Me) : (ev C (.blt "min" (.cons a (.cons b .nil)))).opd ℓ h = ((((ev C a).v ℓ h).bind fun x h => ((ev C b).v ℓ h).bind fun y h => bltV "min" [x, y] h) : R W).bind fun w h => .ok (.inr w) h := by rfl
@[simp] theorem v_m_join (a e : Me) : (ev C (.bm "join" a (.cons e .nil))).v ℓ h = (((ev C a).v ℓ h).bind fun x h => strR x fun a => ((ev C e).l ℓ h).bind fun ws h => joinR a ws h) := by rfl
@[simp] theorem t_m_join (a e : Me) : (ev C (.bm "join" a (.cons e .nil))).t ℓ h = (((((ev C a).v ℓ h).bind fun x h => strR x fun a => ((ev C e).l ℓ h).bind fun ws h => joinR a ws h) : R W).bind fun w h => truR h w) := by rfl
@[simp] theorem l_m_join (a e : Me) : (ev C (.bm "join" a (.cons e .nil))).l ℓ h = ((((ev C a).v ℓ h).bind fun x h => strR x fun a => ((ev C e).l ℓ h).bind fun ws h => joinR a ws h) : R W).bind fun w h => seqR h w := by rfl
@[simp] theorem o_m_join (a e : Me) : (ev C (.bm "join" a (.cons e .nil))).opd ℓ h = ((((ev C a).v ℓ h).bind fun x h => strR x fun a => ((ev C e).l ℓ h).bind fun ws h => joinR a ws h) : R W).bind fun w h => .ok (.inr w) h := by rfl
@[simp] theorem v_m_append (a e : Me) : (ev C (.bm "append" a (.cons e .nil))).v ℓ h = (((ev C a).v ℓ h).bind fun x h => chk (isLst h x) (((ev C e).v ℓ h).bind fun w h => bmV "append" x [w] h)) := by rfl
@[simp] theorem t_m_append (a e : Me) : (ev C (.bm "append" a (.cons e .nil))).t ℓ h = (((((ev C a).v ℓ h).bind fun x h => chk (isLst h x) (((ev C e).v ℓ h).bind fun w h => bmV "append" x [w] h)) : R W).bind fun w h => truR h w) := by rfl
@[simp] theorem l_m_append (a e : Me) : (ev C (.bm "append" a (.cons e .nil))).l ℓ h = ((((ev C a).v ℓ h).bind fun x h => chk (isLst h x) (((ev C e).v ℓ h).bind fun w h => bmV "append" x [w] h)) : R W).bind fun w h => seqR h w := by rfl
@[simp] theorem o_m_append (a e : Me) : (ev C (.bm "append" a (.cons e .nil))).opd ℓ h = ((((ev C a).v ℓ h).bind fun x h => chk (isLst h x) (((ev C e).v ℓ h).bind fun w h => bmV "append" x [w] h)) : R W).bind fun w h => .ok (.inr w) h := by rfl
@[simp] theorem evs_nil : evs C .nil ℓ h = .ok [] h := by rfl
@[simp] theorem evs_cons (e : Me) (es : Mes) : evs C (.cons e es) ℓ h = ((ev C e).v ℓ h).bind fun w h => (evs C es ℓ h).bind fun ws h => .ok (w :: ws) h := by rfl
def keyR {α : Type} (x : W) (f : Key → R α) (_t : Tag f := .mk) : R α := match keyW x with
  | some k => f k
  | none => .stuck
@[simp] theorem keyR_s {α : Type} (x : Str) (f : Key → R α) : keyR (.str x) f = f (.inr x) := rfl
@[simp] theorem keyR_i {α : Type} (x : Int) (f : Key → R α) : keyR (.int x) f = f (.inl x) := rfl
@[simp] theorem evd_nil : evd C .nil ℓ h = .ok [] h := by rfl
@[simp] theorem evd_cons (k v : Me) (r : Mks) : evd C (.cons k v r) ℓ h = ((ev C k).v ℓ h).bind fun x h => ((ev C v).v ℓ h).bind fun y h => keyR x fun k => (evd C r ℓ h).bind fun kvs h => .ok ((k, y) :: kvs) h := by rfl
@[simp] theorem evo_none : evo C .none ℓ h = .ok none h := by rfl
@[simp] theorem evo_some (e : Me) : evo C (.some e) ℓ h = ((ev C e).v ℓ h).bind fun w h => optI w h := by rfl
@[simp] theorem evf_none : evf C .none ℓ h = .ok true h := by rfl
@[simp] theorem evf_some (e : Me) : evf C (.some e) ℓ h = (ev C e).t ℓ h := by rfl
@[simp] theorem evt_name (i : Nat) (w : W) : evt C (.name i) w ℓ h = .ok (ℓ.set i (some w)) h := by rfl
@[simp] theorem evt_tup (ts : Mts) (w : W) : evt C (.tup ts) w ℓ h = (ofO (seqW h w) h).bind fun ws h => evts C ts ws ℓ h := by
  show (match seqW h w with
    | some ws => evts C ts ws ℓ h
    | none => .stuck) = _
  cases seqW h w <;> rfl
@[simp] theorem evt_sub (a i : Me) (w : W) : evt C (.sub a i) w ℓ h = ((ev C a).v ℓ h).bind fun x h => ((ev C i).v ℓ h).bind fun y h => (setSub x y w h).bind fun _ h => .ok ℓ h := by rfl
@[simp] theorem evts_nil : evts C .nil [] ℓ h = .ok ℓ h := by rfl
@[simp] theorem evts_cons (t : Mt) (ts : Mts) (w : W) (ws : List W) : evts C (.cons t ts) (w :: ws) ℓ h = (noX (evt C t w ℓ h)).bind fun ℓ h => evts C ts ws ℓ h := by rfl
@[simp] theorem evi_val (e : Me) : evi C (.val e) ℓ h = ((ev C e).opd ℓ h).bind fun x h => seqO true h x := by rfl
@[simp] theorem evi_range (es : Mes) : evi C (.range es) ℓ h = (evs C es ℓ h).bind fun ws h => rngM ws h := by rfl
@[simp] theorem evi_zip (a b : Me) : evi C (.zip a b) ℓ h = ((ev C a).opd ℓ h).bind fun x h => ((ev C b).opd ℓ h).bind fun y h => chk (tupO x == tupO y) ((seqO false h x).bind fun xs h => (seqO false h y).bind fun ys h => .ok (zipW xs.1 ys.1, xs.2 ++ ys.2) h) := by rfl
@[simp] theorem evi_enum (a : Me) : evi C (.enum a) ℓ h = ((ev C a).opd ℓ h).bind fun x h => chk (!tupO x) ((seqO false h x).bind fun xs h => .ok (enumW 0 xs.1, xs.2) h) := by rfl
end
section
variable (C : Cc) (ℓ : Lo) (h : List O)
@[simp] theorem s_asg_ (t : Mt) (e : Me) : evS C (.asg t e) ℓ h = liftE ℓ ((ev C.cn e).v ℓ h) fun w h => liftE ℓ (noX (evt C.cn t w ℓ h)) fun ℓ h => .ok .nx ℓ h := by rfl
@[simp] theorem s_par_ (i j : Nat) (a b : Me) : evS C (.par i j a b) ℓ h = liftE ℓ ((ev C.cn a).v ℓ h) fun x h => liftE ℓ ((ev C.cn b).v ℓ h) fun y h => .ok .nx ((ℓ.set i (some x)).set j (some y)) h := by rfl
@[simp] theorem s_par3_ (i j l : Nat) (a b d : Me) : evS C (.par3 i j l a b d) ℓ h = liftE ℓ ((ev C.cn a).v ℓ h) fun x h => liftE ℓ ((ev C.cn b).v ℓ h) fun y h => liftE ℓ ((ev C.cn d).v ℓ h) fun z h => .ok .nx (((ℓ.set i (some x)).set j (some y)).set l (some z)) h := by rfl
@[simp] theorem s_expr_ (e : Me) : evS C (.expr e) ℓ h = liftE ℓ ((ev C.cn e).v ℓ h) fun _ h => .ok .nx ℓ h := by rfl
@[simp] theorem s_ret_ (e : Me) : evS C (.ret e) ℓ h = liftE ℓ ((ev C.cn e).v ℓ h) fun w h => .ok (.rt w) ℓ h := by rfl
@[simp] theorem s_retN_ : evS C .retN ℓ h = .ok (.rt .non) ℓ h := by rfl
@[simp] theorem s_pass_ : evS C .pass ℓ h = .ok .nx ℓ h := by rfl
@[simp] theorem s_brk_ : evS C .brk ℓ h = .ok .bk ℓ h := by rfl
@[simp] theorem s_cont_ : evS C .cont ℓ h = .ok .ct ℓ h := by rfl
@[simp] theorem s_ife_ (c : Me) (a b : Mss) : evS C (.ife c a b) ℓ h = liftE ℓ ((ev C.cn c).t ℓ h) fun k h => ifS k (evSs C a ℓ h) (evSs C b ℓ h) := by rfl
@[simp] theorem s_for_ (t : Mt) (s : Mi) (b : Mss) : evS C (.for t s b) ℓ h = liftE ℓ (evi C.cn s ℓ h) fun r h => forL (forBody C t b) r.2 r.1 ℓ h := by rfl
@[simp] theorem s_while_ (c : Me) (b : Mss) : evS C (.while c b) ℓ h = whileL (ev C.cn c).t (evSs C b) C.cn.fuel ℓ h := by rfl
@[simp] theorem s_raise_ (c f : Str) (e : Me) : evS C (.raise c f e) ℓ h = liftE ℓ ((ev C.cn e).v ℓ h) fun w h => .exc ⟨c, [(f, w)]⟩ ℓ h := by rfl
@[simp] theorem s_sat_ (a : Me) (f : Str) (e : Me) : evS C (.sat a f e) ℓ h = liftE ℓ ((ev C.cn e).v ℓ h) fun w h => liftE ℓ ((ev C.cn a).v ℓ h) fun x h => liftE ℓ (satW C.cn x f w h) fun _ h => .ok .nx ℓ h := by rfl
def tryS (C : Cc) (hs : List Hd) (r : RS) : RS := match r with
    | .ok f ℓ h => .ok f ℓ h
    | .exc x ℓ h => catchS C x hs ℓ h
    | .stuck => .stuck
@[simp] theorem tryS_ok (hs : List Hd) (f : Fl) : tryS C hs (.ok f ℓ h) = .ok f ℓ h := rfl
@[simp] theorem tryS_exc (hs : List Hd) (x : Exn) : tryS C hs (.exc x ℓ h) = catchS C x hs ℓ h := rfl
@[simp] theorem s_try_ (b : Mss) (hs : List Hd) : evS C (.try b hs) ℓ h = tryS C hs (evSs C b ℓ h) := by rfl
theorem catch_is {x : Exn} {d : Hd} {ds : List Hd} (e : C.isA x.cls d.cls = some true) : catchS C x (d :: ds) ℓ h = hrS C x d.ret ℓ h := by
  unfold catchS
  rw [e]
theorem catch_yes {x : Exn} {c : Str} {i : Nat} {items : List Hx} {ds : List Hd} {ws : List W} (e : C.isA x.cls c = some true) (e2 : hxW C x items = some ws) (hl : ws.length ≤ sizeLine) : catchS C x (⟨c, i, .lst items⟩ :: ds) ℓ h = .ok (.rt (.slst ws)) ℓ h := by
  rw [catch_is C ℓ h e]
  unfold hrS
  dsimp only
  rw [e2]
  dsimp only
  unfold chkS
  rw [decide_eq_true hl, if_pos rfl]
theorem catch_no {x : Exn} {d : Hd} {ds : List Hd} (e : C.isA x.cls d.cls = some false) : catchS C x (d :: ds) ℓ h = catchS C x ds ℓ h := by
  show (match C.isA x.cls d.cls with
    | some true => hrS C x d.ret ℓ h
    | some false => catchS C x ds ℓ h
    | none => .stuck) = _
  rw [e]
@[simp] theorem ss_nil : evSs C .nil ℓ h = .ok .nx ℓ h := by rfl
@[simp] theorem ss_one (s : Ms) : evSs C (.cons s .nil) ℓ h = evS C s ℓ h := by rfl
@[simp] theorem ss_cons (s s2 : Ms) (ss : Mss) : evSs C (.cons s (.cons s2 ss)) ℓ h = seqS (evS C s ℓ h) (evSs C (.cons s2 ss)) := by rfl
end
/-! ### operations on known values -/
section
variable (h : List O)
@[simp] theorem ofO_some {α : Type} (a : α) : ofO (some a) h = .ok a h := rfl
@[simp] theorem getL_0 (a : Option W) (r : Lo) : getL (a :: r) 0 = a := by cases a <;> rfl
@[simp] theorem getL_s (a : Option W) (r : Lo) (i : Nat) : getL (a :: r) (i + 1) = getL r i := rfl
@[simp] theorem b_add (i j : Int) : binW .Add (.int i) (.int j) h = .ok (.int (i + j)) h := rfl
@[simp] theorem b_addS (i j : Str) : binW .Add (.str i) (.str j) h = chk (decide (i.length + j.length ≤ sizeLine)) (.ok (.str (i ++ j)) h) := rfl
@[simp] theorem b_addL (a b : List W) : binW .Add (.slst a) (.slst b) h = chk (decide (a.length + b.length ≤ sizeLine)) (.ok (.slst (a ++ b)) h) := rfl
@[simp] theorem b_addT (a b : List W) : binW .Add (.tup a) (.tup b) h = chk (decide (a.length + b.length ≤ sizeLine)) (.ok (.tup (a ++ b)) h) := rfl
@[simp] theorem b_sub (i j : Int) : binW .Sub (.int i) (.int j) h = .ok (.int (i - j)) h := rfl
@[simp] theorem b_mul (i j : Int) : binW .Mult (.int i) (.int j) h = chk (mulOk i j) (.ok (.int (i * j)) h) := rfl
@[simp] theorem b_div (i j : Int) : binW .FloorDiv (.int i) (.int j) h = chk (divOk j) (.ok (.int (i.fdiv j)) h) := rfl
@[simp] theorem b_mod (i j : Int) : binW .Mod (.int i) (.int j) h = chk (decide (j ≠ 0)) (.ok (.int (i.fmod j)) h) := rfl
@[simp] theorem b_pow (i j : Int) : binW .Pow (.int i) (.int j) h = chk (powOk i j) (.ok (.int (i ^ j.toNat)) h) := rfl
@[simp] theorem tr_bl (b : Bool) : truR h (.bl b) = .ok b h := rfl
@[simp] theorem tr_non : truR h .non = .ok false h := rfl
@[simp] theorem tr_int (i : Int) : truR h (.int i) = .ok (i != 0) h := rfl
@[simp] theorem sub_tup (ws : List W) (i : Int) : subW (.tup ws) (.int i) h = ofO (atI ws i) h := by
  show (match atI ws i with
      | some w => R.ok w h
      | none => .stuck) = _
  cases atI ws i <;> rfl
@[simp] theorem sub_slst (ws : List W) (i : Int) : subW (.slst ws) (.int i) h = ofO (atI ws i) h := by
  show (match atI ws i with
      | some w => R.ok w h
      | none => .stuck) = _
  cases atI ws i <;> rfl
theorem sub_ref {n : Nat} {ws : List W} (e : h[n]? = some (.lst ws)) (i : Int) : subW (.ref n) (.int i) h = ofO (atI ws i) h := by
  show (match seqW h (.ref n) with
    | some ws => match atI ws i with
      | some w => R.ok w h
      | none => .stuck
    | none => .stuck) = _
  unfold seqW
  dsimp only
  rw [e]
  dsimp only
  cases atI ws i <;> rfl
theorem set_ref {n j : Nat} {ws : List W} {k : Int} {w : W} (e : h[n]? = some (.lst ws)) (hj : ixN ws.length k = some j) : setSub (.ref n) (.int k) w h = .ok () (h.set n (.lst (ws.set j w))) := by
  unfold setSub
  dsimp only
  rw [e]
  dsimp only
  rw [hj]
theorem chk_of {α : Type} {b : Bool} {r : R α} (e : b = true) : chk b r = r := by rw [e]; rfl
@[simp] theorem cw_lt (i j : Int) : cmpW .Lt (.int i) (.int j) h = .ok (.bl (decide (i < j))) h := rfl
@[simp] theorem cw_le (i j : Int) : cmpW .LtE (.int i) (.int j) h = .ok (.bl (decide (i ≤ j))) h := rfl
@[simp] theorem cw_gt (i j : Int) : cmpW .Gt (.int i) (.int j) h = .ok (.bl (decide (j < i))) h := rfl
@[simp] theorem cw_ge (i j : Int) : cmpW .GtE (.int i) (.int j) h = .ok (.bl (decide (j ≤ i))) h := rfl
@[simp] theorem co_lt (i j : Int) : cmpO .Lt (.inr (.int i)) (.inr (.int j)) h = .ok (.bl (decide (i < j))) h := rfl
@[simp] theorem co_le (i j : Int) : cmpO .LtE (.inr (.int i)) (.inr (.int j)) h = .ok (.bl (decide (i ≤ j))) h := rfl
@[simp] theorem co_gt (i j : Int) : cmpO .Gt (.inr (.int i)) (.inr (.int j)) h = .ok (.bl (decide (j < i))) h := rfl
@[simp] theorem co_ge (i j : Int) : cmpO .GtE (.inr (.int i)) (.inr (.int j)) h = .ok (.bl (decide (j ≤ i))) h := rfl
@[simp] theorem co_eq (a b : Opd) : cmpO .Eq a b h = oB (eqO h a b) h := rfl
@[simp] theorem co_ne (a b : Opd) : cmpO .NotEq a b h = oB ((eqO h a b).map (!·)) h := rfl
@[simp] theorem co_in (a b : Opd) : cmpO .In a b h = oB (inO h a b) h := rfl
@[simp] theorem co_nin (a b : Opd) : cmpO .NotIn a b h = oB ((inO h a b).map (!·)) h := rfl
@[simp] theorem oB_some (b : Bool) : oB (some b) h = .ok (.bl b) h := rfl
@[simp] theorem in_str (a b : Str) : inO h (.inr (.str a)) (.inr (.str b)) = some (!(Builtin.Str.occurrences b a 0 b.length 1).isEmpty) := rfl
@[simp] theorem eq_ii (i j : Int) : eqO h (.inr (.int i)) (.inr (.int j)) = some (i == j) := rfl
@[simp] theorem eq_ss (i j : Str) : eqO h (.inr (.str i)) (.inr (.str j)) = some (i == j) := rfl
@[simp] theorem so_l (st : Bool) (ws : List W) : seqO st h (.inl ws) = .ok (ws, []) h := rfl
@[simp] theorem so_t (st : Bool) (ws : List W) : seqO st h (.inr (.tup ws)) = .ok (ws, []) h := rfl
@[simp] theorem so_sl (st : Bool) (ws : List W) : seqO st h (.inr (.slst ws)) = .ok (ws, []) h := rfl
@[simp] theorem so_s (x : Str) : seqO true h (.inr (.str x)) = .ok (chars x, []) h := rfl
@[simp] theorem lsq_l (ws : List W) : lsqO h (.inl ws) = .ok ws h := rfl
@[simp] theorem lsq_sl (ws : List W) : lsqO h (.inr (.slst ws)) = .ok ws h := rfl
@[simp] theorem rng_1 (j : Int) : rngM [.int j] h = chk (rngOk j) (.ok (rngL 0 j.toNat, []) h) := rfl
@[simp] theorem rng_2 (i j : Int) : rngM [.int i, .int j] h = chk (rngOk i && rngOk j) (.ok (rngL i (j - i).toNat, []) h) := rfl
@[simp] theorem len_s (z : Str) : lenW (.str z) h = chk (decide (z.length ≤ sizeLine)) (.ok (.int z.length) h) := rfl
@[simp] theorem len_t (ws : List W) : lenW (.tup ws) h = .ok (.int ws.length) h := rfl
@[simp] theorem len_sl (ws : List W) : lenW (.slst ws) h = .ok (.int ws.length) h := rfl
@[simp] theorem alloc_ (o : O) : alloc o h = .ok (.ref h.length) (h ++ [o]) := rfl
@[simp] theorem mx (i j : Int) : bltV "max" [.int i, .int j] h = .ok (.int (if j > i then j else i)) h := by rfl
@[simp] theorem mn (i j : Int) : bltV "min" [.int i, .int j] h = .ok (.int (if j < i then j else i)) h := by rfl
@[simp] theorem ab (i : Int) : bltV "abs" [.int i] h = .ok (.int (if i < 0 then -i else i)) h := by rfl
@[simp] theorem for_nil (f : W → Lo → List O → RS) (ℓ : Lo) : forL f [] [] ℓ h = .ok .nx ℓ h := rfl
theorem for_cons (f : W → Lo → List O → RS) (w : W) (ws : List W) (ℓ : Lo) : forL f [] (w :: ws) ℓ h = turnS (f w ℓ h) (forL f [] ws) := rfl
theorem while_s (c : Lo → List O → R Bool) (f : Lo → List O → RS) (n : Nat) (ℓ : Lo) : whileL c f (n + 1) ℓ h = liftE ℓ (c ℓ h) fun b h => if b = true then turnS (f ℓ h) (whileL c f n) else .ok .nx ℓ h := rfl
@[simp] theorem gcF_f (h0 : List O) (r : R W) : gcF false h0 r = r := rfl
@[simp] theorem gcF_t (h0 : List O) (r : R W) : gcF true h0 r = gcR h0 r := rfl
theorem chk_le {α : Type} {a : Nat} {r : R α} (e : a ≤ 16777216) : chk (decide (a ≤ sizeLine)) r = r := by rw [decide_eq_true (show a ≤ sizeLine from by rw [sizeLine_eq]; exact e)]; rfl
theorem chk_lt {α : Type} {a : Nat} {r : R α} (e : a < 16777216) : chk (decide (a < sizeLine)) r = r := by rw [decide_eq_true (show a < sizeLine from by rw [sizeLine_eq]; exact e)]; rfl
@[simp] theorem lc_nil (f : W → List O → R (Option W)) (n : Nat) : lcLoop f [] n [] h = .ok [] h := rfl
end
end MP

set_option maxRecDepth 100000
set_option maxHeartbeats 4000000
namespace MP
open PySem PySem.Spec PyProof.Rows L2
theorem runF_of {C : Cc} {d : FD} {ws : List W} {h : List O} (e : ws.length = d.ps.length) : runF C d ws h = gcF d.gc h (endF (evSs C d.body (startL d.N.length ws) h)) := by
  unfold runF
  rw [if_pos e]
/-! ### comprehensions and loops, once for all -/
theorem lc_step (f : W → List O → R (Option W)) (n : Nat) (w : W) (ws : List W) (h : List O) : lcLoop f [] n (w :: ws) h = (noX (f w h)).bind fun o h1 => match o with
    | some y => chk (decide (n < sizeLine)) ((lcLoop f [] (n + 1) ws h1).bind fun r h2 => .ok (y :: r) h2)
    | none => lcLoop f [] n ws h1 := rfl
/-- each item gives an item or nothing, nothing is written -/
theorem lc_filterMap {f : W → List O → R (Option W)} {g : W → Option W} {h : List O} : ∀ {ws : List W} {n : Nat}, (∀ w ∈ ws, f w h = .ok (g w) h) → n + ws.length ≤ 16777216 → lcLoop f [] n ws h = .ok (ws.filterMap g) h
  | [], n, _, _ => rfl
  | w :: ws, n, hf, hl => by
    rw [List.length_cons] at hl
    rw [lc_step, hf w List.mem_cons_self]
    have ih := fun m (hm : m + ws.length ≤ 16777216) => lc_filterMap (f := f) (g := g) (h := h) (ws := ws) (n := m) (fun w hw => hf w (List.mem_cons_of_mem _ hw)) hm
    cases e : g w with
    | none =>
      rw [List.filterMap_cons, e]
      exact ih n (by omega)
    | some y =>
      rw [List.filterMap_cons, e]
      show chk (decide (n < sizeLine)) ((lcLoop f [] (n + 1) ws h).bind fun r h2 => .ok (y :: r) h2) = _
      rw [chk_lt (by omega), ih (n + 1) (by omega)]
      rfl
theorem lc_map {f : W → List O → R (Option W)} {g : W → W} {h : List O} {ws : List W} {n : Nat} (hf : ∀ w ∈ ws, f w h = .ok (some (g w)) h) (hl : n + ws.length ≤ 16777216) : lcLoop f [] n ws h = .ok (ws.map g) h := by
  rw [lc_filterMap (g := fun w => some (g w)) hf hl]
  simp
theorem lc_mapA {α : Type} {f : W → List O → R (Option W)} {a : α → W} {g : α → W} {h : List O} {xs : List α} {n : Nat} (hf : ∀ x ∈ xs, f (a x) h = .ok (some (g x)) h) (hl : n + xs.length ≤ 16777216) : lcLoop f [] n (xs.map a) h = .ok (xs.map g) h := by
  induction xs generalizing n with
  | nil => rfl
  | cons x xs ih =>
    rw [List.length_cons] at hl
    rw [List.map_cons, lc_step, hf x List.mem_cons_self]
    show chk (decide (n < sizeLine)) ((lcLoop f [] (n + 1) (xs.map a) h).bind fun r h2 => .ok (g x :: r) h2) = _
    rw [chk_lt (by omega), ih (fun y hy => hf y (List.mem_cons_of_mem _ hy)) (by omega)]
    rfl
theorem lc_filterA {α : Type} {f : W → List O → R (Option W)} {a : α → W} {g : α → W} {p : α → Bool} {h : List O} {xs : List α} {n : Nat} (hf : ∀ x ∈ xs, f (a x) h = .ok (if p x = true then some (g x) else none) h) (hl : n + xs.length ≤ 16777216) :
    lcLoop f [] n (xs.map a) h = .ok ((xs.filter p).map g) h := by
  induction xs generalizing n with
  | nil => rfl
  | cons x xs ih =>
    rw [List.length_cons] at hl
    rw [List.map_cons, lc_step, hf x List.mem_cons_self]
    cases e : p x with
    | true =>
      rw [List.filter_cons, e, if_pos rfl, if_pos rfl]
      show chk (decide (n < sizeLine)) ((lcLoop f [] (n + 1) (xs.map a) h).bind fun r h2 => .ok (g x :: r) h2) = _
      rw [chk_lt (by omega), ih (fun y hy => hf y (List.mem_cons_of_mem _ hy)) (by omega)]
      rfl
    | false =>
      rw [List.filter_cons, e, if_neg Bool.false_ne_true, if_neg Bool.false_ne_true]
      exact ih (fun y hy => hf y (List.mem_cons_of_mem _ hy)) (by omega)
/-- draws: what each item gives is told by a property, the heap by an invariant with a counter -/
theorem lc_draw {f : W → List O → R (Option W)} {I : Nat → List O → Prop} {Y : W → Prop} : ∀ {ws : List W} {n k : Nat} {h : List O}, (∀ w ∈ ws, ∀ j h, k ≤ j → j < k + ws.length → I j h → ∃ y h', f w h = .ok (some y) h' ∧ I (j + 1) h' ∧ Y y) → n + ws.length ≤ 16777216 → I k h →
    ∃ ys h', lcLoop f [] n ws h = .ok ys h' ∧ I (k + ws.length) h' ∧ ys.length = ws.length ∧ ∀ y ∈ ys, Y y
  | [], n, k, h, _, _, hi => ⟨[], h, rfl, hi, rfl, fun _ z => nomatch z⟩
  | w :: ws, n, k, h, hf, hl, hi => by
    rw [List.length_cons] at hl
    obtain ⟨y, h1, e1, i1, y1⟩ := hf w List.mem_cons_self k h (Nat.le_refl _) (by rw [List.length_cons]; omega) hi
    obtain ⟨ys, h2, e2, i2, l2, y2⟩ := lc_draw (f := f) (I := I) (Y := Y) (ws := ws) (n := n + 1) (k := k + 1) (h := h1) (fun v hv j h a b => hf v (List.mem_cons_of_mem _ hv) j h (by omega) (by rw [List.length_cons]; omega)) (by omega) i1
    have ek : k + (ws.length + 1) = k + 1 + ws.length := by omega
    refine ⟨y :: ys, h2, ?_, by rw [List.length_cons, ek]; exact i2, by rw [List.length_cons, List.length_cons, l2], fun z hz => ?_⟩
    · rw [lc_step, e1]
      show chk (decide (n < sizeLine)) ((lcLoop f [] (n + 1) ws h1).bind fun r h2 => .ok (y :: r) h2) = _
      rw [chk_lt (by omega), e2]
      rfl
    · rcases List.mem_cons.mp hz with rfl | hz
      · exact y1
      · exact y2 z hz
/-- a loop by an invariant over the part that is walked -/
theorem for_inv {f : W → Lo → List O → RS} {I : List W → Lo → List O → Prop} : ∀ {ws pre : List W} {ℓ : Lo} {h : List O}, (∀ p w q ℓ h, pre ++ ws = p ++ w :: q → I p ℓ h → ∃ ℓ' h', f w ℓ h = .ok .nx ℓ' h' ∧ I (p ++ [w]) ℓ' h') → I pre ℓ h →
    ∃ ℓ' h', forL f [] ws ℓ h = .ok .nx ℓ' h' ∧ I (pre ++ ws) ℓ' h'
  | [], pre, ℓ, h, _, hi => ⟨ℓ, h, rfl, by rw [List.append_nil]; exact hi⟩
  | w :: ws, pre, ℓ, h, hf, hi => by
    obtain ⟨ℓ1, h1, e1, i1⟩ := hf pre w ws ℓ h rfl hi
    obtain ⟨ℓ2, h2, e2, i2⟩ := for_inv (f := f) (I := I) (ws := ws) (pre := pre ++ [w]) (ℓ := ℓ1) (h := h1) (fun p v q ℓ h e => hf p v q ℓ h (by rw [← e, List.append_assoc]; rfl)) i1
    refine ⟨ℓ2, h2, ?_, by rw [List.append_assoc] at i2; exact i2⟩
    rw [for_cons, e1, turnS_nx, e2]
/-- a loop that folds one thing, others change as they will, nothing is written -/
theorem for_fold {α β γ : Type} {f : W → Lo → List O → RS} {a : α → W} {st : β → γ → Lo} {g : β → α → β} {h : List O} : ∀ {xs : List α} {b : β} {o : γ}, (∀ x ∈ xs, ∀ b o, ∃ o', f (a x) (st b o) h = .ok .nx (st (g b x) o') h) →
    ∃ o', forL f [] (xs.map a) (st b o) h = .ok .nx (st (xs.foldl g b) o') h
  | [], b, o, _ => ⟨o, rfl⟩
  | x :: xs, b, o, hf => by
    obtain ⟨o1, e1⟩ := hf x List.mem_cons_self b o
    obtain ⟨o2, e2⟩ := for_fold (f := f) (a := a) (st := st) (g := g) (h := h) (xs := xs) (b := g b x) (o := o1) fun y hy => hf y (List.mem_cons_of_mem _ hy)
    refine ⟨o2, ?_⟩
    rw [List.map_cons, for_cons, e1, turnS_nx, e2]
    rfl
theorem ints_of {P : Int → Prop} : ∀ {ys : List W}, (∀ y ∈ ys, ∃ i, y = .int i ∧ P i) → ∃ ns : List Int, ys = ns.map W.int ∧ ∀ n ∈ ns, P n
  | [], _ => ⟨[], rfl, fun _ h => nomatch h⟩
  | y :: ys, h => by
    obtain ⟨i, rfl, p⟩ := h y List.mem_cons_self
    obtain ⟨ns, rfl, q⟩ := ints_of (ys := ys) fun z hz => h z (List.mem_cons_of_mem _ hz)
    refine ⟨i :: ns, rfl, fun n hn => ?_⟩
    rcases List.mem_cons.mp hn with rfl | hn
    · exact p
    · exact q n hn
/-! ### the end of a call -/
theorem gcR_app {h o : List O} {w w' : W} (e : dzW h.length (dzR (h ++ o) h.length gcDeep) w = some w') : gcR h (.ok w (h ++ o)) = .ok w' h := by
  unfold gcR
  dsimp only
  rw [if_pos (show gcOk h (h ++ o) from ⟨by rw [List.length_append]; omega, fun i x hi ex => .inl (by rw [List.getElem?_append_left hi] at ex; exact ex)⟩), e]
  dsimp only
  rw [List.take_left']
  rfl

/-! ### data -/
theorem mapM_pure {f : W → Option PyData} {α : Type} {a : α → W} {d : α → PyData} (hf : ∀ x, f (a x) = some (d x)) : ∀ xs : List α, (xs.map a).mapM f = some (xs.map d)
  | [] => rfl
  | x :: xs => by
    rw [List.map_cons, List.mapM_cons, hf, mapM_pure hf xs]
    rfl
theorem toD_int (h : List O) (n : Nat) (i : Int) : toD h n (.int i) = some (.int i) := by cases n <;> rfl
theorem toD_str (h : List O) (n : Nat) (i : Str) : toD h n (.str i) = some (.str i) := by cases n <;> rfl
theorem toD_bl (h : List O) (n : Nat) (i : Bool) : toD h n (.bl i) = some (.bool i) := by cases n <;> rfl
theorem toD_non (h : List O) (n : Nat) : toD h n .non = some .none := by cases n <;> rfl
theorem toD_tup (h : List O) (n : Nat) (ws : List W) : toD h (n + 1) (.tup ws) = (ws.mapM (toD h n)).map .tuple := by rw [toD]
theorem toD_slst (h : List O) (n : Nat) (ws : List W) : toD h (n + 1) (.slst ws) = (ws.mapM (toD h n)).map .list := by rw [toD]
abbrev tpI (ns : List Int) : W := .tup (ns.map W.int)
abbrev lsI (ns : List Int) : W := .slst (ns.map W.int)
theorem toD_tpI (h : List O) (n : Nat) (ns : List Int) : toD h (n + 1) (tpI ns) = some (.tuple (ns.map .int)) := by
  rw [toD_tup, mapM_pure (d := PyData.int) (toD_int h n)]; rfl
theorem toD_lsI (h : List O) (n : Nat) (ns : List Int) : toD h (n + 1) (lsI ns) = some (.list (ns.map .int)) := by
  rw [toD_slst, mapM_pure (d := PyData.int) (toD_int h n)]; rfl
theorem lay_ints : ∀ ns : List Int, PyData.canLayAll0 (ns.map .int) = true ∧ PyData.depthAll (ns.map .int) = 0
  | [] => ⟨rfl, rfl⟩
  | n :: ns => by
    obtain ⟨a, b⟩ := lay_ints ns
    rw [List.map_cons, PyData.canLayAll0, PyData.depthAll, a, b]
    exact ⟨rfl, rfl⟩
theorem shaped_tpI (ns : List Int) : SeqAt.shaped (.tuple (ns.map .int)) = true := by
  unfold SeqAt.shaped
  rw [PyData.canLay0, PyData.depth, (lay_ints ns).1, (lay_ints ns).2]; rfl
theorem shaped_lsI (ns : List Int) : SeqAt.shaped (.list (ns.map .int)) = true := by
  unfold SeqAt.shaped
  rw [PyData.canLay0, PyData.depth, (lay_ints ns).1, (lay_ints ns).2]; rfl
theorem eqv_ints : ∀ a b : List Int, PyData.eqvAll (a.map .int) (b.map .int) = decide (a = b)
  | [], [] => rfl
  | [], b :: bs => rfl
  | a :: as, [] => rfl
  | a :: as, b :: bs => by
    rw [List.map_cons, List.map_cons, PyData.eqvAll, PyData.eqv, eqv_ints as bs]
    by_cases h1 : a = b
    · by_cases h2 : as = bs
      · simp [h1, h2]
      · simp [h1, h2]
    · simp [h1]
/-- == by data -/
theorem eqO_of {h : List O} {a b : Opd} {d e : PyData} (ha : datO h a = some d) (hb : datO h b = some e) (sa : SeqAt.shaped d = true) (sb : SeqAt.shaped e = true) (hn : ∀ x y, a = .inr x → b = .inr y → scalW x y = false) : eqO h a b = some (PyData.eqv d e) := by
  have key : (match datO h a, datO h b with
    | some d, some e => if (SeqAt.shaped d && SeqAt.shaped e) = true then some (PyData.eqv d e) else none
    | _, _ => none) = some (PyData.eqv d e) := by
    rw [ha, hb]
    dsimp only
    rw [sa, sb]
    rfl
  cases a with
  | inl xs => exact key
  | inr x =>
    cases b with
    | inl ys => exact key
    | inr y =>
      show eqW h x y = _
      unfold eqW
      rw [hn x y rfl rfl, if_neg Bool.false_ne_true]
      exact key
theorem eqO_refl {h : List O} {a b : Opd} {d : PyData} (ha : datO h a = some d) (hb : datO h b = some d) (sa : SeqAt.shaped d = true) (hn : ∀ x y, a = .inr x → b = .inr y → scalW x y = false) : eqO h a b = some true := by
  rw [eqO_of ha hb sa sa hn, SeqAt.eqv_refl d (SeqAt.canLay_of_shaped sa)]
theorem datO_tpI (h : List O) (ns : List Int) : datO h (.inr (tpI ns)) = some (.tuple (ns.map .int)) := toD_tpI h 11 ns
theorem datO_lsI (h : List O) (ns : List Int) : datO h (.inr (lsI ns)) = some (.list (ns.map .int)) := toD_lsI h 11 ns
theorem eqO_tpI (h : List O) (a b : List Int) : eqO h (.inr (tpI a)) (.inr (tpI b)) = some (decide (a = b)) := by
  rw [eqO_of (datO_tpI h a) (datO_tpI h b) (shaped_tpI a) (shaped_tpI b) (fun x y e1 e2 => by cases e1; cases e2; rfl), PyData.eqv, eqv_ints]

/-! ### the laws' draws -/
theorem pow_ok {i j : Int} (h1 : 0 ≤ j) (h2 : j ≤ 1000000) (h3 : i.natAbs < 2 ^ 64) : powOk i j = true := decide_eq_true ⟨h1, h2, h3⟩
theorem mul_small {i j : Int} (h1 : -(2 ^ 64) < i) (h2 : i < 2 ^ 64) : mulOk i j = true := by
  unfold mulOk
  rw [decide_eq_true (p := -(2 ^ 64) < i ∧ i < 2 ^ 64) ⟨h1, h2⟩]
  rfl
theorem mul_small2 {i j : Int} (h1 : -(2 ^ 64) < j) (h2 : j < 2 ^ 64) : mulOk i j = true := by
  unfold mulOk
  rw [decide_eq_true (p := -(2 ^ 64) < j ∧ j < 2 ^ 64) ⟨h1, h2⟩]
  simp
theorem mul_wide {i j : Int} (h1 : i.natAbs < 2 ^ 250) (h2 : j.natAbs < 2 ^ 250) : mulOk i j = true := by
  unfold mulOk
  have a : i.natAbs.log2 ≤ 250 := by
    by_cases z : i.natAbs = 0
    · rw [z]; decide
    · exact Nat.le_of_lt ((Nat.log2_lt z).mpr h1)
  have b : j.natAbs.log2 ≤ 250 := by
    by_cases z : j.natAbs = 0
    · rw [z]; decide
    · exact Nat.le_of_lt ((Nat.log2_lt z).mpr h2)
  rw [decide_eq_true (p := i.natAbs.log2 + j.natAbs.log2 < 1000000) (by omega)]
  simp
/-- a box: what is left of a great cell, the seed, the draws so far -/
def Bx (b : Nat) (n : Nat) (h : List O) : Prop := ∃ x y z, h[b]? = some (.lst [.int x, .int y, .int z]) ∧ 0 ≤ x ∧ 0 ≤ y ∧ y < 2147483629 ∧ 0 ≤ z ∧ z ≤ n
theorem Bx.app {b n : Nat} {h o : List O} (q : Bx b n h) : Bx b n (h ++ o) := by
  obtain ⟨x, y, z', e, r⟩ := q
  exact ⟨x, y, z', by rw [List.getElem?_append_left (List.getElem?_eq_some_iff.mp e).1]; exact e, r⟩
theorem Bx.le {b n m : Nat} {h : List O} (q : Bx b n h) (l : n ≤ m) : Bx b m h := by
  obtain ⟨x, y, z', e, h1, h2, h3, h4, h5⟩ := q
  exact ⟨x, y, z', e, h1, h2, h3, h4, by omega⟩
theorem Bx.lt {b n : Nat} {h : List O} (q : Bx b n h) : b < h.length := by
  obtain ⟨x, y, z', e, r⟩ := q
  exact (List.getElem?_eq_some_iff.mp e).1
/-- only the box has changed -/
def Bd (b : Nat) (h h' : List O) : Prop := h'.length = h.length ∧ ∀ i, i ≠ b → h'[i]? = h[i]?
theorem Bd.refl {b : Nat} {h : List O} : Bd b h h := ⟨rfl, fun _ _ => rfl⟩
theorem Bd.trans {b : Nat} {h h1 h2 : List O} (p : Bd b h h1) (q : Bd b h1 h2) : Bd b h h2 := ⟨q.1.trans p.1, fun i hi => (q.2 i hi).trans (p.2 i hi)⟩
theorem Bd.set {b : Nat} {h : List O} {o : O} : Bd b h (h.set b o) := ⟨List.length_set, fun i hi => List.getElem?_set_ne (Ne.symm hi)⟩
def takeT (p q : Int) : Mss := (.cons (.ife (.cmp .Gt (.sub (.var 0) (.int 0)) (.int 0)) (.cons (.asg (.name 2) (.bin .Mod (.sub (.var 0) (.int 0)) (.var 1))) (.cons (.asg (.sub (.var 0) (.int 0)) (.bin .FloorDiv (.sub (.var 0) (.int 0)) (.var 1))) (.cons (.ret (.var 2)) .nil))) .nil) (.cons (.asg (.sub (.var 0) (.int 2)) (.bin .Add (.sub (.var 0) (.int 2)) (.int 1)))
  (.cons (.asg (.name 3) (.bin .Mod (.bin .Pow (.bin .Add (.bin .Add (.sub (.var 0) (.int 1)) (.bin .Mult (.int p) (.sub (.var 0) (.int 2)))) (.int q)) (.int 5)) (.int 2147483647))) (.cons (.asg (.name 3) (.bin .Mod (.bin .Pow (.bin .Add (.var 3) (.bin .Mult (.int 104711) (.sub (.var 0) (.int 2)))) (.int 3)) (.int 2147483587))) (.cons (.ret (.bin .Mod (.bin .FloorDiv (.var 3) (.int 32)) (.var 1))) .nil)))))
def cellT (p q : Int) : Mss := (.cons (.ife (.cmp .Lt (.var 1) (.blt "len" (.cons (.var 0) .nil))) (.cons (.ret (.sub (.var 0) (.var 1))) .nil) .nil) (.cons (.ret (.bin .Add (.bin .Mult (.int p) (.var 1)) (.int q))) .nil))
def boxT : Mss := (.cons (.ret (.lst (.cons (.blt "max" (.cons (.int 0) (.cons (.bin .Sub (.var 0) (.bin .Pow (.int 10) (.int 18))) .nil))) (.cons (.bin .Mod (.var 0) (.int 2147483629)) (.cons (.int 0) .nil))))) .nil)
theorem takeT_ok (C : Cc) (p q : Int) (hp : 0 ≤ p ∧ p < 100000000) (hq : 0 ≤ q ∧ q < 100000) (h : List O) (b n : Nat) (many : Int) (hb : Bx b n h) (hm : divOk many = true) (hm0 : 0 < many) (hn : n < 100000000) :
    ∃ r h', endF (evSs C (takeT p q) [some (.ref b), some (.int many), none, none] h) = .ok (.int r) h' ∧ 0 ≤ r ∧ r < many ∧ Bx b (n + 1) h' ∧ Bd b h h' := by
  obtain ⟨x, y, z, e, hx, hy, hy2, hz, hz2⟩ := hb
  have hlt : b < h.length := (List.getElem?_eq_some_iff.mp e).1
  have n0 : many ≠ 0 := by omega
  by_cases h0 : 0 < x
  · refine ⟨x.fmod many, h.set b (.lst [.int (x.fdiv many), .int y, .int z]), ?_, Int.fmod_nonneg_of_pos _ hm0, Int.fmod_lt_of_pos _ hm0, ⟨_, y, z, List.getElem?_set_self hlt, Int.fdiv_nonneg hx (by omega), hy, hy2, hz, by omega⟩, .set⟩
    simp -dsimp [takeT, sub_ref h e, L2.atI, L2.ixN, h0, set_ref h e, n0, chk_of hm]
  · have hb2 : (h.set b (.lst [.int x, .int y, .int (z + 1)]))[b]? = some (.lst [.int x, .int y, .int (z + 1)]) := by rw [List.getElem?_set_self hlt]
    have q1 : mulOk p (z + 1) = true := mul_small (by omega) (by omega)
    have pz : 0 ≤ p * (z + 1) := Int.mul_nonneg hp.1 (by omega)
    have pz2 : p * (z + 1) ≤ 100000000 * 100000001 := Int.mul_le_mul (by omega) (by omega) (by omega) (by omega)
    have p1 : powOk (y + p * (z + 1) + q) 5 = true := pow_ok (by omega) (by omega) (by omega)
    have m1 := Int.fmod_nonneg_of_pos ((y + p * (z + 1) + q) ^ 5) (b := 2147483647) (by omega)
    have m2 := Int.fmod_lt_of_pos ((y + p * (z + 1) + q) ^ 5) (b := 2147483647) (by omega)
    have p2 : powOk ((((y + p * (z + 1) + q) ^ 5).fmod 2147483647) + 104711 * (z + 1)) 3 = true := pow_ok (by omega) (by omega) (by omega)
    have q2 : mulOk 104711 (z + 1) = true := mul_small (by omega) (by omega)
    have q3 : divOk 32 = true := by decide
    refine ⟨(((((((y + p * (z + 1) + q) ^ 5).fmod 2147483647) + 104711 * (z + 1)) ^ 3).fmod 2147483587).fdiv 32).fmod many, h.set b (.lst [.int x, .int y, .int (z + 1)]), ?_, Int.fmod_nonneg_of_pos _ hm0, Int.fmod_lt_of_pos _ hm0, ⟨x, y, z + 1, hb2, hx, hy, hy2, by omega, by omega⟩, .set⟩
    simp -dsimp [takeT, sub_ref h e, sub_ref _ hb2, L2.atI, L2.ixN, h0, set_ref h e, n0, chk_of p1, chk_of p2, chk_of q1, chk_of q2, chk_of q3]
theorem cellT_in (C : Cc) (p q : Int) (h : List O) (ns : List Int) (k : Nat) (hk : k < ns.length) : endF (evSs C (cellT p q) [some (.slst (ns.map W.int)), some (.int k)] h) = .ok (.int ns[k]) h := by
  have e : (ns.map W.int)[k]? = some (.int ns[k]) := by simp [hk]
  have h1 : (k : Int) < (ns.length : Int) := by omega
  have h2 : (0 : Int) ≤ k := by omega
  simp -dsimp [cellT, L2.atI, L2.ixN, h1, h2, e, hk]
theorem cellT_out (C : Cc) (p q : Int) (h : List O) (ns : List Int) (k : Int) (hk : ¬ k < ns.length) (q1 : mulOk p k = true) : endF (evSs C (cellT p q) [some (.slst (ns.map W.int)), some (.int k)] h) = .ok (.int (p * k + q)) h := by
  have e1 : (ev C.cn (.bin .Add (.bin .Mult (.int p) (.var 1)) (.int q))).v [some (.slst (ns.map W.int)), some (.int k)] h = .ok (.int (p * k + q)) h := by
    simp -dsimp [chk_of q1]
  have e2 : (ev C.cn (.cmp .Lt (.var 1) (.blt "len" (.cons (.var 0) .nil)))).t [some (.slst (ns.map W.int)), some (.int k)] h = .ok false h := by
    simp -dsimp [hk]
  unfold cellT
  rw [ss_cons, s_ife_, e2, liftE_ok, ifS_f, ss_nil, seqS_nx, ss_one, s_ret_, e1, liftE_ok]
  rfl
theorem cellT_ok (C : Cc) (p q : Int) (hp : 0 ≤ p ∧ p < 100000000) (h : List O) (ns : List Int) (k : Nat) : ∃ c, endF (evSs C (cellT p q) [some (.slst (ns.map W.int)), some (.int k)] h) = .ok (.int c) h := by
  by_cases hk : k < ns.length
  · exact ⟨_, cellT_in C p q h ns k hk⟩
  · exact ⟨_, cellT_out C p q h ns k (by omega) (mul_small (by omega) (by omega))⟩
theorem boxT_ev (C : Cc) (h : List O) (c : Int) : endF (evSs C boxT [some (.int c)] h) = .ok (.ref h.length) (h ++ [.lst [.int (if c - 10 ^ 18 > 0 then c - 10 ^ 18 else 0), .int (c.fmod 2147483629), .int 0]]) := by
  have p1 : powOk 10 18 = true := by decide
  have z3 : decide (3 ≤ sizeLine) = true := decide_eq_true (by rw [sizeLine_eq]; omega)
  simp -dsimp [boxT, chk_of p1, chk_of z3]
theorem boxT_bx (h : List O) (c : Int) : Bx h.length 0 (h ++ [.lst [.int (if c - 10 ^ 18 > 0 then c - 10 ^ 18 else 0), .int (c.fmod 2147483629), .int 0]]) := by
  refine ⟨_, _, 0, by rw [List.getElem?_append_right (Nat.le_refl _), Nat.sub_self]; rfl, ?_, Int.fmod_nonneg_of_pos _ (by omega), Int.fmod_lt_of_pos _ (by omega), by omega, by omega⟩
  split <;> omega
theorem boxT_ok (C : Cc) (h : List O) (c : Int) : ∃ x y, endF (evSs C boxT [some (.int c)] h) = .ok (.ref h.length) (h ++ [.lst [.int x, .int y, .int 0]]) ∧ Bx h.length 0 (h ++ [.lst [.int x, .int y, .int 0]]) :=
  ⟨_, _, boxT_ev C h c, boxT_bx h c⟩
/-! ### the law's own range -/
theorem cap_ok (a b n : Nat) (ha : a ≤ b) : ∃ m : Nat, a ≤ m ∧ m ≤ b ∧ (if (if (n : Int) < b then (n : Int) else b) > a then (if (n : Int) < b then (n : Int) else b) else a) = (m : Int) := by
  by_cases h1 : n < b
  · by_cases h2 : a < n
    · exact ⟨n, by omega, by omega, by rw [if_pos (show (n : Int) < b by omega), if_pos (show (n : Int) > a by omega)]⟩
    · exact ⟨a, by omega, by omega, by rw [if_pos (show (n : Int) < b by omega), if_neg (show ¬ (n : Int) > a by omega)]⟩
  · by_cases h2 : a < b
    · exact ⟨b, by omega, by omega, by rw [if_neg (show ¬ (n : Int) < b by omega), if_pos (show (b : Int) > a by omega)]⟩
    · exact ⟨a, by omega, by omega, by rw [if_neg (show ¬ (n : Int) < b by omega), if_neg (show ¬ (b : Int) > a by omega)]⟩
theorem rng_ok {m : Nat} (h : m < 1000000) : rngOk (m : Int) = true := by
  have e : (2 : Int) ^ 62 = 4611686018427387904 := by decide
  unfold rngOk
  rw [e]
  exact decide_eq_true ⟨by omega, by omega⟩
theorem rng1_of {C : Cn} {e : Me} {ℓ : Lo} {h h1 : List O} {n : Nat} (q : (ev C e).v ℓ h = .ok (.int (n : Int)) h1) (hn : n < 1000000) : evi C (.range (.cons e .nil)) ℓ h = .ok (rngL 0 n, []) h1 := by
  rw [evi_range, evs_cons, q, R.bind_ok, evs_nil, R.bind_ok, R.bind_ok]
  show chk (rngOk (n : Int)) (.ok (rngL 0 (n : Int).toNat, []) h1) = _
  rw [chk_of (rng_ok hn)]
  rfl
theorem rng_ok2 {m : Int} (h1 : -1000000 < m) (h2 : m < 1000000) : rngOk m = true := by
  have e : (2 : Int) ^ 62 = 4611686018427387904 := by decide
  unfold rngOk
  rw [e]
  exact decide_eq_true ⟨by omega, by omega⟩
theorem rng2_of {C : Cn} {e f : Me} {ℓ : Lo} {h h1 h2 : List O} {i j : Int} (q : (ev C e).v ℓ h = .ok (.int i) h1) (q2 : (ev C f).v ℓ h1 = .ok (.int j) h2) (hi1 : -1000000 < i) (hi : i < 1000000) (hj1 : -1000000 < j) (hj : j < 1000000) : evi C (.range (.cons e (.cons f .nil))) ℓ h = .ok (rngL i (j - i).toNat, []) h2 := by
  rw [evi_range, evs_cons, q, R.bind_ok, evs_cons, q2, R.bind_ok, evs_nil, R.bind_ok, R.bind_ok, R.bind_ok]
  show chk (rngOk i && rngOk j) (.ok (rngL i (j - i).toNat, []) h2) = _
  rw [rng_ok2 hi1 hi, rng_ok2 hj1 hj]
  rfl
theorem sz {n : Nat} (h : n ≤ 1000) : decide (n ≤ sizeLine) = true := decide_eq_true (by rw [sizeLine_eq]; omega)
theorem sz2 {n : Nat} (h : n < 1000) : decide (n < sizeLine) = true := decide_eq_true (by rw [sizeLine_eq]; omega)
theorem repr_of {h : List O} {a : Opd} {d : PyData} (e : datO h a = some d) (c : (d.showable && decide (d.shown.length ≤ 16777216)) = true) : reprO h a = .ok (.str d.shown) h := by
  unfold reprO
  rw [e]
  show chk (d.showable && decide (d.shown.length ≤ sizeLine)) _ = _
  rw [sizeLine_eq, c]
  rfl
@[simp] theorem seqR_sl (ws : List W) (h : List O) : seqR h (.slst ws) = .ok ws h := rfl
@[simp] theorem seqR_tp (ws : List W) (h : List O) : seqR h (.tup ws) = .ok ws h := rfl
def capR (a b : Int) : Mi := (.range (.cons (.blt "max" (.cons (.int a) (.cons (.blt "min" (.cons (.int b) (.cons (.blt "len" (.cons (.var 0) .nil)) .nil))) .nil))) .nil))
theorem capR_ok (C : Cn) (a b : Nat) (hab : a ≤ b) (hb : b < 1000) (ns : List Int) (ℓ : Lo) (h : List O) : ∃ m, a ≤ m ∧ m ≤ b ∧ evi C (capR a b) (some (.slst (ns.map W.int)) :: ℓ) h = .ok ((List.range m).map (fun k : Nat => W.int (0 + (k : Int))), []) h := by
  obtain ⟨m, m1, m2, em⟩ := cap_ok a b ns.length hab
  refine ⟨m, m1, m2, ?_⟩
  have e1 : (ev C (.blt "len" (.cons (.var 0) .nil))).v (some (.slst (ns.map W.int)) :: ℓ) h = .ok (.int ns.length) h := by simp
  have e2 : (ev C (.blt "min" (.cons (.int b) (.cons (.blt "len" (.cons (.var 0) .nil)) .nil)))).v (some (.slst (ns.map W.int)) :: ℓ) h = .ok (.int (if (ns.length : Int) < b then (ns.length : Int) else b)) h := by
    rw [show (ev C (.blt "min" (.cons (.int b) (.cons (.blt "len" (.cons (.var 0) .nil)) .nil)))).v (some (.slst (ns.map W.int)) :: ℓ) h = (((ev C (.blt "len" (.cons (.var 0) .nil))).v (some (.slst (ns.map W.int)) :: ℓ) h).bind fun y h => bltV "min" [.int b, y] h) from rfl, e1, R.bind_ok, mn]
  rw [show evi C (capR a b) (some (.slst (ns.map W.int)) :: ℓ) h = ((((ev C (.blt "min" (.cons (.int b) (.cons (.blt "len" (.cons (.var 0) .nil)) .nil)))).v (some (.slst (ns.map W.int)) :: ℓ) h).bind fun y h => bltV "max" [.int a, y] h).bind fun y h => rngM [y] h) from rfl, e2, R.bind_ok, mx, em, R.bind_ok]
  show chk (rngOk (m : Int)) (.ok (rngL 0 (m : Int).toNat, []) h) = _
  rw [chk_of (rng_ok (by omega))]
  rfl
end MP
set_option maxRecDepth 100000
set_option maxHeartbeats 4000000
/-! instances in the small heap, and calls with keywords, by what is known -/
namespace MP
open PySem PySem.Spec PyProof.Rows L2
section
variable {C : Cn} {h : List O} {n : Nat} {c f g m : Str} {fs : List (Str × W)} {w : W} {ar : List Ar} {ks : List Str} {ws : List W}
theorem insW_of (e : h[n]? = some (.ins c fs)) : insW h (.ref n) = some (c, fs) := by
  show (match h[n]? with
    | some (.ins c fs) => some (c, fs)
    | _ => none) = _
  rw [e]
theorem attW_of (e : h[n]? = some (.ins c fs)) (ha : C.att c f = true) (el : fs.lookup f = some w) : attW C (.ref n) f h = .ok w h := by
  unfold attW
  rw [insW_of e]
  dsimp only
  rw [if_pos ha, el]
theorem callA_of {call : Str → List W → List O → R W} {fm : Str → Nat → List Str → Option (List Ar)} {k : Nat} (hf : fm g k ks = some ar) (hl : ws.length = k + ks.length) : callA call fm g k ks ws h = call g (arr ws ar) h := by
  unfold callA
  rw [hf]
  dsimp only
  rw [decide_eq_true hl]
  rfl
theorem attW_prop (e : h[n]? = some (.ins c fs)) (ha : C.att c f = false) (hp : C.prp c f = some g) (hf : C.frm g 1 [] = some ar) : attW C (.ref n) f h = noX (C.ini g (arr [.ref n] ar) h) := by
  unfold attW
  rw [insW_of e]
  dsimp only
  rw [ha, if_neg Bool.false_ne_true, hp]
  dsimp only
  rw [callA_of hf rfl]
theorem metW_of (e : h[n]? = some (.ins c fs)) (hl : fs.lookup m = none) (hm : C.met c m = some g) : metW C (.ref n) m h = some g := by
  unfold metW
  rw [insW_of e]
  dsimp only
  rw [hl]
  exact hm
theorem spcW_of (e : h[n]? = some (.ins c fs)) (hl : fs.lookup m = none) (hm : C.met c m = some g) (hf : C.frm g (ws.length + 1) [] = some ar) : spcW C (.ref n) m ws h = noX (C.ini g (arr (.ref n :: ws) ar) h) := by
  unfold spcW
  rw [metW_of e hl hm]
  dsimp only
  rw [callA_of hf (by rw [List.length_cons]; rfl)]
theorem satW_of (e : h[n]? = some (.ins c fs)) (ha : C.att c f = true) (hl : fs.length < 1000) : satW C (.ref n) f w h = .ok () (h.set n (.ins c (putFW f w fs))) := by
  unfold satW
  dsimp only
  rw [e]
  dsimp only
  rw [ha, decide_eq_true hl]
  rfl
theorem newW_of {k : Nat} {h' : List O} (hf : C.frm g k ks = some ar) (hl : ws.length + 1 = k + ks.length) (e : C.ini g (arr (.ref h.length :: ws) ar) (h ++ [.ins c []]) = .ok .non h') : newW C c g k ks ws h = .ok (.ref h.length) h' := by
  unfold newW
  rw [callA_of hf (by rw [List.length_cons]; exact hl), e]
  rfl
end
end MP
set_option maxRecDepth 100000
set_option maxHeartbeats 4000000
/-! texts by their codes, kinds of values, classes' instances: what laws lean on -/
namespace MP
open PySem PySem.Spec PyProof.Rows L2
/-- the text with such codes -/
abbrev S (l : List Nat) : Str := ⟨l.toArray⟩
abbrev T (l : List Nat) : W := .str (S l)
theorem S_eta (x : Str) : S x.cps.toList = x := by cases x; rfl
theorem S_inj {a b : List Nat} : S a = S b ↔ a = b := by
  refine ⟨fun h => ?_, fun h => by rw [h]⟩
  have : (S a).cps.toList = (S b).cps.toList := by rw [h]
  simpa using this
theorem S_len (a : List Nat) : (S a).length = a.length := by show (a.toArray).size = _; simp
theorem S_app (a b : List Nat) : S a ++ S b = S (a ++ b) := by
  show (⟨a.toArray ++ b.toArray⟩ : Str) = ⟨(a ++ b).toArray⟩
  simp
theorem S_chars (a : List Nat) : chars (S a) = a.map fun c => T [c] := by
  unfold chars
  simp
theorem S_beq (a b : List Nat) : (S a == S b) = decide (a = b) := by
  by_cases h : a = b
  · subst h; simp
  · rw [decide_eq_false h, beq_eq_false_iff_ne]
    exact fun z => h (S_inj.mp z)
theorem eq_T (h : List O) (a b : List Nat) : eqO h (.inr (T a)) (.inr (T b)) = some (decide (a = b)) := by
  rw [eq_ss, S_beq]
theorem add_T (h : List O) {a b : List Nat} (hl : a.length + b.length ≤ 1000) : binW .Add (T a) (T b) h = .ok (T (a ++ b)) h := by
  rw [b_addS, S_len, S_len, sz hl, chk_true, S_app]
theorem len_T (h : List O) {a : List Nat} (hl : a.length ≤ 1000) : lenW (T a) h = .ok (.int a.length) h := by
  rw [len_s, S_len, sz hl, chk_true]
theorem sub_T (h : List O) {a : List Nat} {i : Nat} {c : Nat} (hl : a.length ≤ 1000) (e : a[i]? = some c) : subW (T a) (.int i) h = .ok (T [c]) h := by
  have hi : i < a.length := (List.getElem?_eq_some_iff.mp e).1
  show chk (decide ((S a).length ≤ sizeLine)) (match atI (S a).cps.toList (i : Int) with
    | some c => (R.ok (.str ⟨#[c]⟩) h : R W)
    | none => .stuck) = _
  rw [S_len, sz hl, chk_true]
  have : atI (S a).cps.toList (i : Int) = some c := by
    unfold atI ixN
    have h1 : (0 : Int) ≤ i := by omega
    have h2 : (i : Int) < (((S a).cps.toList.length : Nat) : Int) := by simp; omega
    simp only [h1, if_true, h2, Int.toNat_natCast]
    simpa using e
  rw [this]
theorem atI_nat {α : Type} {l : List α} {i : Nat} {a : α} (e : l[i]? = some a) : atI l (i : Int) = some a := by
  have hi : i < l.length := (List.getElem?_eq_some_iff.mp e).1
  unfold atI ixN
  have h1 : (0 : Int) ≤ i := by omega
  have h2 : (i : Int) < (l.length : Int) := by omega
  simp only [h1, if_true, h2, Int.toNat_natCast]
  exact e
theorem atI_neg1 {α : Type} {l : List α} {a : α} (e : l.getLast? = some a) : atI l (-1) = some a := by
  have hl : l ≠ [] := fun z => by rw [z] at e; cases e
  have hn : 0 < l.length := List.length_pos_iff.mpr hl
  rw [List.getLast?_eq_getElem?] at e
  unfold atI ixN
  have h2 : (0 : Int) ≤ -1 + (l.length : Int) := by omega
  have h3 : (-1 + (l.length : Int)).toNat = l.length - 1 := by omega
  have h4 : (1 : Int) ≤ l.length := by omega
  simp [h2, h3, e, h4]
theorem cut_T (a : List Nat) (lo hi : Option Int) : cutS (S a) lo hi = S (cutW a lo hi) := by
  have e : (S a).length = a.length := S_len a
  unfold cutS cutW
  simp only [S, e] at *
theorem slice_T (h : List O) {a : List Nat} {lo hi : Option Int} (hl : a.length ≤ 1000) : sliceW (T a) lo hi h = .ok (T (cutW a lo hi)) h := by
  rw [sliceW_s, S_len, sz hl, chk_true, cut_T]
theorem sIx_nat {n i : Nat} (d : Nat) (h : i ≤ n) : HT.sIx n d (some (i : Int)) = i := by
  unfold HT.sIx
  have h0 : ¬ ((i : Int) < 0) := by omega
  simp [h0, h]
theorem cut_some {α : Type} {l : List α} {i j : Nat} (hi : i ≤ l.length) (hj : j ≤ l.length) : cutW l (some (i : Int)) (some (j : Int)) = (l.drop i).take (j - i) := by
  unfold cutW
  rw [sIx_nat _ hi, sIx_nat _ hj]
/-- no object of the small heap -/
def nr : W → Bool
  | .ref _ => false
  | _ => true
def tyN : W → String
  | .non => "NoneType" | .bl _ => "bool" | .int _ => "int" | .str _ => "str" | .tup _ => "tuple" | .slst _ => "list" | .sdct _ => "dict" | .ref _ => ""
theorem wType_nr {w : W} (h : List O) (e : nr w = true) : wType w h = some (tyN w) := by
  cases w <;> first | rfl | exact absurd e Bool.false_ne_true
theorem insW_nr {w : W} (h : List O) (e : nr w = true) : insW h w = none := by
  cases w <;> first | rfl | exact absurd e Bool.false_ne_true
theorem isx_nr {C : Cn} {ts : List String} {w : W} (h : List O) (e : nr w = true) : isxW C ts w h = .ok (.bl (ts.any fun T => isiB (tyN w) T)) h := by
  unfold isxW
  rw [insW_nr h e]
  show isiW ts w h = _
  unfold isiW
  rw [wType_nr h e]
theorem isx_str {C : Cn} (x : Str) (h : List O) : isxW C ["str"] (.str x) h = .ok (.bl true) h := rfl
theorem isx_ins {C : Cn} {ts : List String} {n : Nat} {c : Str} {fs : List (Str × W)} {h : List O} (e : h[n]? = some (.ins c fs)) (hc : C.isn c = true) : isxW C ts (.ref n) h = .ok (.bl false) h := by
  unfold isxW
  rw [insW_of e]
  show chk (C.isn c) _ = _
  rw [hc]
  rfl
theorem isc_ins {C : Cn} {n : Nat} {c k : Str} {b : Bool} {fs : List (Str × W)} {h : List O} (e : h[n]? = some (.ins c fs)) (hb : C.sub c k = some b) : iscW C (.ref n) k h = .ok (.bl b) h := by
  unfold iscW
  rw [insW_of e]
  show oB (C.sub c k) h = _
  rw [hb]
  rfl
theorem isc_nr {C : Cn} {k : Str} {w : W} (h : List O) (e : nr w = true) : iscW C w k h = .ok (.bl false) h := by
  unfold iscW
  rw [insW_nr h e]
  show (match wType w h with
    | some _ => (R.ok (.bl false) h : R W)
    | none => .stuck) = _
  rw [wType_nr h e]
/-- items of a list or a tuple that is no object of the small heap -/
def its? : W → Option (List W)
  | .tup ws => some ws
  | .slst ws => some ws
  | _ => none
theorem seq_its {w : W} {ws : List W} {h : List O} (e : its? w = some ws) : seqW h w = some ws := by
  cases w <;> first | exact e | cases e
theorem len_its {w : W} {ws : List W} (h : List O) (e : its? w = some ws) : lenW w h = .ok (.int ws.length) h := by
  cases w <;> first | (cases e; rfl) | cases e
theorem sub_its {w : W} {ws : List W} {i : Nat} {x : W} (h : List O) (e : its? w = some ws) (ei : ws[i]? = some x) : subW w (.int i) h = .ok x h := by
  cases w <;> first
    | (cases e; first | rw [sub_tup, atI_nat ei]; rfl | rw [sub_slst, atI_nat ei]; rfl)
    | cases e
theorem so_its {w : W} {ws : List W} (b : Bool) (h : List O) (e : its? w = some ws) : seqO b h (.inr w) = .ok (ws, []) h := by
  cases w <;> first | (cases e; rfl) | cases e
theorem seqR_its {w : W} {ws : List W} (h : List O) (e : its? w = some ws) : seqR h w = .ok ws h := by
  cases w <;> first | (cases e; rfl) | cases e
theorem nr_its {w : W} {ws : List W} (e : its? w = some ws) : nr w = true := by
  cases w <;> first | rfl | cases e
/-- x in a list of texts -/
theorem in_strs {h : List O} {x : Str} {ys : List Str} : inO h (.inr (.str x)) (.inl (ys.map .str)) = some (decide (x ∈ ys)) := by
  show (if (flatW (.str x) && (ys.map W.str).all flatW) = true then some ((ys.map W.str).any fun z => eqF z (.str x)) else none) = _
  have h1 : (ys.map W.str).all flatW = true := by rw [List.all_map]; exact List.all_eq_true.mpr fun _ _ => rfl
  have h2 : ((ys.map W.str).any fun z => eqF z (.str x)) = decide (x ∈ ys) := by
    rw [List.any_map]
    induction ys with
    | nil => rfl
    | cons y ys ih =>
      rw [List.any_cons, ih (by rw [List.all_map]; exact List.all_eq_true.mpr fun _ _ => rfl)]
      show ((y == x) || _) = _
      by_cases e : y = x
      · subst e; simp
      · have : (y == x) = false := by rw [beq_eq_false_iff_ne]; exact e
        rw [this, Bool.false_or]
        simp [Ne.symm e]
  rw [h1, h2]
  rfl
theorem in_strsT {h : List O} {x : Str} {ys : List Str} : inO h (.inr (.str x)) (.inr (.tup (ys.map .str))) = some (decide (x ∈ ys)) := by
  rw [← in_strs (h := h)]
  rfl
theorem in_strsL {h : List O} {x : Str} {ys : List Str} : inO h (.inr (.str x)) (.inr (.slst (ys.map .str))) = some (decide (x ∈ ys)) := by
  rw [← in_strs (h := h)]
  rfl
@[simp] theorem tupO_t (ws : List W) : tupO (.inr (.tup ws)) = true := rfl
@[simp] theorem tupO_sl (ws : List W) : tupO (.inr (.slst ws)) = false := rfl
@[simp] theorem tupO_l (ws : List W) : tupO (.inl ws) = false := rfl
@[simp] theorem tupO_r (n : Nat) : tupO (.inr (.ref n)) = false := rfl
theorem cond_t {α : Type} {x y : α} : (if true = true then x else y) = x := rfl
def takeG (p q r s : Int) : Mss := (.cons (.ife (.cmp .Gt (.sub (.var 0) (.int 0)) (.int 0)) (.cons (.asg (.name 2) (.bin .Mod (.sub (.var 0) (.int 0)) (.var 1))) (.cons (.asg (.sub (.var 0) (.int 0)) (.bin .FloorDiv (.sub (.var 0) (.int 0)) (.var 1))) (.cons (.ret (.var 2)) .nil))) .nil) (.cons (.asg (.sub (.var 0) (.int 2)) (.bin .Add (.sub (.var 0) (.int 2)) (.int 1)))
  (.cons (.asg (.name 3) (.bin .Mod (.bin .Pow (.bin .Add (.bin .Add (.sub (.var 0) (.int 1)) (.bin .Mult (.int p) (.sub (.var 0) (.int 2)))) (.int q)) (.int 5)) (.int 2147483647))) (.cons (.asg (.name 3) (.bin .Mod (.bin .Pow (.bin .Add (.var 3) (.bin .Mult (.int r) (.sub (.var 0) (.int 2)))) (.int 3)) (.int 2147483587))) (.cons (.ret (.bin .Mod (.bin .FloorDiv (.var 3) (.int s)) (.var 1))) .nil)))))
theorem takeG_ok (C : Cc) (p q rr ss : Int) (hr : 0 ≤ rr ∧ rr < 1000000) (hs : divOk ss = true) (hs0 : 0 < ss) (hp : 0 ≤ p ∧ p < 200000000) (hq : 0 ≤ q ∧ q < 100000) (h : List O) (b n : Nat) (many : Int) (hb : Bx b n h) (hm : divOk many = true) (hm0 : 0 < many) (hn : n < 100000000) :
    ∃ r h', endF (evSs C (takeG p q rr ss) [some (.ref b), some (.int many), none, none] h) = .ok (.int r) h' ∧ 0 ≤ r ∧ r < many ∧ Bx b (n + 1) h' ∧ Bd b h h' := by
  obtain ⟨x, y, z, e, hx, hy, hy2, hz, hz2⟩ := hb
  have hlt : b < h.length := (List.getElem?_eq_some_iff.mp e).1
  have n0 : many ≠ 0 := by omega
  by_cases h0 : 0 < x
  · refine ⟨x.fmod many, h.set b (.lst [.int (x.fdiv many), .int y, .int z]), ?_, Int.fmod_nonneg_of_pos _ hm0, Int.fmod_lt_of_pos _ hm0, ⟨_, y, z, List.getElem?_set_self hlt, Int.fdiv_nonneg hx (by omega), hy, hy2, hz, by omega⟩, .set⟩
    simp -dsimp [takeG, sub_ref h e, L2.atI, L2.ixN, h0, set_ref h e, n0, chk_of hm]
  · have hb2 : (h.set b (.lst [.int x, .int y, .int (z + 1)]))[b]? = some (.lst [.int x, .int y, .int (z + 1)]) := by rw [List.getElem?_set_self hlt]
    have q1 : mulOk p (z + 1) = true := mul_small (by omega) (by omega)
    have pz : 0 ≤ p * (z + 1) := Int.mul_nonneg hp.1 (by omega)
    have pz2 : p * (z + 1) ≤ 200000000 * 100000001 := Int.mul_le_mul (by omega) (by omega) (by omega) (by omega)
    have p1 : powOk (y + p * (z + 1) + q) 5 = true := pow_ok (by omega) (by omega) (by omega)
    have m1 := Int.fmod_nonneg_of_pos ((y + p * (z + 1) + q) ^ 5) (b := 2147483647) (by omega)
    have m2 := Int.fmod_lt_of_pos ((y + p * (z + 1) + q) ^ 5) (b := 2147483647) (by omega)
    have rz : 0 ≤ rr * (z + 1) := Int.mul_nonneg hr.1 (by omega)
    have rz2 : rr * (z + 1) ≤ 1000000 * 100000001 := Int.mul_le_mul (by omega) (by omega) (by omega) (by omega)
    have p2 : powOk ((((y + p * (z + 1) + q) ^ 5).fmod 2147483647) + rr * (z + 1)) 3 = true := pow_ok (by omega) (by omega) (by omega)
    have q2 : mulOk rr (z + 1) = true := mul_small (by omega) (by omega)
    have q3 : divOk ss = true := hs
    refine ⟨(((((((y + p * (z + 1) + q) ^ 5).fmod 2147483647) + rr * (z + 1)) ^ 3).fmod 2147483587).fdiv ss).fmod many, h.set b (.lst [.int x, .int y, .int (z + 1)]), ?_, Int.fmod_nonneg_of_pos _ hm0, Int.fmod_lt_of_pos _ hm0, ⟨x, y, z + 1, hb2, hx, hy, hy2, by omega, by omega⟩, .set⟩
    simp -dsimp [takeG, sub_ref h e, sub_ref _ hb2, L2.atI, L2.ixN, h0, set_ref h e, n0, chk_of p1, chk_of p2, chk_of q1, chk_of q2, chk_of q3]
theorem cellG_ok (C : Cc) (p q : Int) (hp : 0 ≤ p ∧ p < 200000000) (h : List O) (ns : List Int) (k : Nat) : ∃ c, endF (evSs C (cellT p q) [some (.slst (ns.map W.int)), some (.int k)] h) = .ok (.int c) h := by
  by_cases hk : k < ns.length
  · exact ⟨_, cellT_in C p q h ns k hk⟩
  · exact ⟨_, cellT_out C p q h ns k (by omega) (mul_small (by omega) (by omega))⟩
/-! ### the end of a call that hands out new lists -/
mutual
def cl : W → Bool
  | .tup ws => cls ws
  | .slst ws => cls ws
  | .sdct kvs => clk kvs
  | .ref _ => false
  | .non => true
  | .bl _ => true
  | .int _ => true
  | .str _ => true
def cls : List W → Bool
  | [] => true
  | w :: ws => cl w && cls ws
def clk : List (Key × W) → Bool
  | [] => true
  | (_, w) :: ws => cl w && clk ws
end
mutual
theorem dz_cl {n0 : Nat} {f : Nat → Option W} : ∀ w : W, cl w = true → dzW n0 f w = some w
  | .tup ws, h => by rw [dzW, dzs_cl ws h]; rfl
  | .slst ws, h => by rw [dzW, dzs_cl ws h]; rfl
  | .sdct ws, h => by rw [dzW, dzk_cl ws h]; rfl
  | .ref _, h => absurd h Bool.false_ne_true
  | .non, _ => rfl
  | .bl _, _ => rfl
  | .int _, _ => rfl
  | .str _, _ => rfl
theorem dzs_cl {n0 : Nat} {f : Nat → Option W} : ∀ ws : List W, cls ws = true → dzWs n0 f ws = some ws
  | [], _ => rfl
  | w :: ws, h => by
    rw [cls, Bool.and_eq_true] at h
    rw [dzWs, dz_cl w h.1, dzs_cl ws h.2]
    rfl
theorem dzk_cl {n0 : Nat} {f : Nat → Option W} : ∀ ws : List (Key × W), clk ws = true → dzKs n0 f ws = some ws
  | [], _ => rfl
  | (k, w) :: ws, h => by
    rw [clk, Bool.and_eq_true] at h
    rw [dzKs, dz_cl w h.1, dzk_cl ws h.2]
    rfl
end
theorem cls_all {ws : List W} : cls ws = ws.all cl := by
  induction ws with
  | nil => rfl
  | cons w ws ih => rw [cls, List.all_cons, ih]
theorem gcR_of {h h' : List O} {w w' : W} (hl : h.length ≤ h'.length) (ho : ∀ (i : Nat) (o : O), i < h.length → h'[i]? = some o → h[i]? = some o ∨ cleanO h.length o) (e : dzW h.length (dzR h' h.length gcDeep) w = some w') : gcR h (.ok w h') = .ok w' (h'.take h.length) := by
  unfold gcR
  dsimp only
  rw [if_pos (show gcOk h h' from ⟨hl, ho⟩), e]
/-- nothing was written, a new list is handed out -/
theorem gcR_list {h o : List O} {ws : List W} {n : Nat} (hn : h.length ≤ n) (e : (h ++ o)[n]? = some (.lst ws)) (c : cls ws = true) : gcR h (.ok (.ref n) (h ++ o)) = .ok (.slst ws) h := by
  refine gcR_app ?_
  rw [dzW, if_neg (by omega)]
  show (match (h ++ o)[n]? with
    | some (.lst ws) => (dzWs h.length (dzR (h ++ o) h.length 7) ws).map W.slst
    | some (.dct kvs) => (dzKs h.length (dzR (h ++ o) h.length 7) kvs).map W.sdct
    | _ => none) = _
  rw [e]
  dsimp only
  rw [dzs_cl ws c]
  rfl
theorem gcR_cl {h o : List O} {w : W} (c : cl w = true) : gcR h (.ok w (h ++ o)) = .ok w h := gcR_app (dz_cl w c)
/-- the heap has grown, of what stood before only the box has changed -/
def Gr (b : Nat) (h h' : List O) : Prop := h.length ≤ h'.length ∧ ∀ i, i < h.length → i ≠ b → h'[i]? = h[i]?
theorem Gr.refl {b : Nat} {h : List O} : Gr b h h := ⟨Nat.le_refl _, fun _ _ _ => rfl⟩
theorem Gr.of {b : Nat} {h h' : List O} (d : Bd b h h') : Gr b h h' := ⟨Nat.le_of_eq d.1.symm, fun i _ hi => d.2 i hi⟩
theorem Gr.trans {b : Nat} {h h1 h2 : List O} (p : Gr b h h1) (q : Gr b h1 h2) : Gr b h h2 := ⟨Nat.le_trans p.1 q.1, fun i hi hb => (q.2 i (Nat.lt_of_lt_of_le hi p.1) hb).trans (p.2 i hi hb)⟩
theorem Gr.app {b : Nat} {h : List O} (o : List O) : Gr b h (h ++ o) := ⟨by rw [List.length_append]; omega, fun i hi _ => List.getElem?_append_left hi⟩
theorem Gr.set {b n : Nat} {h0 h : List O} {o : O} (g : Gr b h0 h) (hn : h0.length ≤ n) : Gr b h0 (h.set n o) := ⟨by rw [List.length_set]; exact g.1, fun i hi hb => by rw [List.getElem?_set_ne (by omega)]; exact g.2 i hi hb⟩
theorem Bx.take {b n : Nat} {h : List O} {k : Nat} (q : Bx b n h) (hb : b < k) : Bx b n (h.take k) := by
  obtain ⟨x, y, z', e, r⟩ := q
  exact ⟨x, y, z', by rw [List.getElem?_take_of_lt hb]; exact e, r⟩
theorem Gr.take {b : Nat} {h h' : List O} (g : Gr b h h') : Bd b h (h'.take h.length) := by
  refine ⟨by rw [List.length_take]; exact Nat.min_eq_left g.1, fun i hi => ?_⟩
  by_cases hl : i < h.length
  · rw [List.getElem?_take_of_lt hl]; exact g.2 i hl hi
  · rw [List.getElem?_eq_none (by rw [List.length_take]; omega), List.getElem?_eq_none (by omega)]
theorem gcR_gr {b n : Nat} {h h' : List O} {w w' : W} (g : Gr b h h') (q : Bx b n h') (e : dzW h.length (dzR h' h.length gcDeep) w = some w') : gcR h (.ok w h') = .ok w' (h'.take h.length) := by
  refine gcR_of g.1 (fun i o hi ho => ?_) e
  by_cases hb : i = b
  · subst hb
    obtain ⟨x, y, z', e2, r⟩ := q
    rw [e2] at ho
    cases ho
    exact .inr (dzs_cl _ rfl)
  · exact .inl (by rw [← g.2 i hi hb]; exact ho)
theorem dz_list {n0 : Nat} {h' : List O} {n : Nat} {ws : List W} (hn : n0 ≤ n) (e : h'[n]? = some (.lst ws)) (c : cls ws = true) : dzW n0 (dzR h' n0 gcDeep) (.ref n) = some (.slst ws) := by
  rw [dzW, if_neg (by omega)]
  show (match h'[n]? with
    | some (.lst ws) => (dzWs n0 (dzR h' n0 7) ws).map W.slst
    | some (.dct kvs) => (dzKs n0 (dzR h' n0 7) kvs).map W.sdct
    | _ => none) = _
  rw [e]
  dsimp only
  rw [dzs_cl ws c]
  rfl
/-- append to a list of the small heap -/
theorem app_ref {h : List O} {n : Nat} {ws : List W} {y : W} (e : h[n]? = some (.lst ws)) (hl : ws.length < 1000) : bmV "append" (.ref n) [y] h = .ok .non (h.set n (.lst (ws ++ [y]))) := by
  unfold bmV
  rw [if_pos rfl]
  show (match h[n]? with
    | some (.lst ws) => chk (decide (ws.length < sizeLine)) (.ok W.non (h.set n (O.lst (ws ++ [y]))))
    | _ => .stuck) = _
  rw [e]
  dsimp only
  rw [sz2 hl, chk_true]
theorem isLst_ref {h : List O} {n : Nat} {ws : List W} (e : h[n]? = some (.lst ws)) : isLst h (.ref n) = true := by
  show (match h[n]? with
    | some (.lst _) => true
    | _ => false) = true
  rw [e]
/-- a loop that hands back at the first item that fits, nothing is written -/
theorem for_ret {α γ : Type} {f : W → Lo → List O → RS} {a : α → W} {p : α → Bool} {r : α → W} {st : γ → Lo} {h : List O} : ∀ {xs : List α} {o : γ}, (∀ x ∈ xs, ∀ o, ∃ o', f (a x) (st o) h = if p x = true then .ok (.rt (r x)) (st o') h else .ok .nx (st o') h) →
    ∃ o', forL f [] (xs.map a) (st o) h = match xs.find? p with
      | some x => .ok (.rt (r x)) (st o') h
      | none => .ok .nx (st o') h
  | [], o, _ => ⟨o, rfl⟩
  | x :: xs, o, hf => by
    obtain ⟨o1, e1⟩ := hf x List.mem_cons_self o
    cases hp : p x with
    | true =>
      rw [hp, if_pos rfl] at e1
      exact ⟨o1, by rw [List.map_cons, for_cons, e1, List.find?_cons, hp]; rfl⟩
    | false =>
      rw [hp, if_neg Bool.false_ne_true] at e1
      obtain ⟨o2, e2⟩ := for_ret (f := f) (a := a) (p := p) (r := r) (st := st) (h := h) (xs := xs) (o := o1) fun y hy => hf y (List.mem_cons_of_mem _ hy)
      exact ⟨o2, by rw [List.map_cons, for_cons, e1, turnS_nx, e2, List.find?_cons, hp]⟩
theorem in_T (h : List O) (c : Nat) (x : Str) : inO h (.inr (T [c])) (.inr (.str x)) = some (decide (c ∈ x.cps.toList)) := by
  rw [in_str]
  exact congrArg some (PySem.StrLaws.found_one x c)
end MP
set_option maxRecDepth 100000
set_option maxHeartbeats 4000000
/-! closed values' data, shown -/
namespace MP
open PySem PySem.Spec PyProof.Rows L2
theorem mapM_cg {f g : W → Option PyData} : ∀ {ws : List W}, (∀ w ∈ ws, f w = g w) → ws.mapM f = ws.mapM g
  | [], _ => rfl
  | w :: ws, h => by
    rw [List.mapM_cons, List.mapM_cons, h w List.mem_cons_self, mapM_cg fun x hx => h x (List.mem_cons_of_mem _ hx)]
theorem mapM_cgk {f g : Key × W → Option (PyData × PyData)} : ∀ {ws : List (Key × W)}, (∀ w ∈ ws, f w = g w) → ws.mapM f = ws.mapM g
  | [], _ => rfl
  | w :: ws, h => by
    rw [List.mapM_cons, List.mapM_cons, h w List.mem_cons_self, mapM_cgk fun x hx => h x (List.mem_cons_of_mem _ hx)]
theorem cls_mem : ∀ {ws : List W}, cls ws = true → ∀ w ∈ ws, cl w = true
  | [], _, _, h => nomatch h
  | w :: ws, h, x, hx => by
    rw [cls, Bool.and_eq_true] at h
    rcases List.mem_cons.mp hx with rfl | hx
    · exact h.1
    · exact cls_mem h.2 x hx
theorem clk_mem : ∀ {ws : List (Key × W)}, clk ws = true → ∀ w ∈ ws, cl w.2 = true
  | [], _, _, h => nomatch h
  | (k, w) :: ws, h, x, hx => by
    rw [clk, Bool.and_eq_true] at h
    rcases List.mem_cons.mp hx with rfl | hx
    · exact h.1
    · exact clk_mem h.2 x hx
theorem toD_cl (h h' : List O) : ∀ (n : Nat) (w : W), cl w = true → toD h n w = toD h' n w
  | 0, w, c => by cases w <;> first | rfl | cases c
  | n + 1, .non, _ => rfl
  | n + 1, .bl _, _ => rfl
  | n + 1, .int _, _ => rfl
  | n + 1, .str _, _ => rfl
  | n + 1, .ref _, c => by cases c
  | n + 1, .tup ws, c => by
    rw [toD_tup, toD_tup, mapM_cg fun w hw => toD_cl h h' n w (cls_mem c w hw)]
  | n + 1, .slst ws, c => by
    rw [toD_slst, toD_slst, mapM_cg fun w hw => toD_cl h h' n w (cls_mem c w hw)]
  | n + 1, .sdct ws, c => by
    rw [toD, toD, mapM_cgk fun w hw => by rw [toD_cl h h' n w.2 (clk_mem c w hw)]]
/-- a value whose data are shown in no more than k letters -/
def shB (k : Nat) (w : W) : Bool := cl w && (match toD [] 11 w with
  | some d => d.showable && decide (d.shown.length ≤ k)
  | none => false)
theorem textFrom_up : ∀ (ts : List Str) (k : Nat) (acc : Str), (textFrom k acc ts).length ≤ acc.length + piled ts
  | [], _, acc => by rw [piled_nil]; exact Nat.le_refl _
  | t :: ts, k, acc => by
    have ih := textFrom_up ts (k + 1) (acc ++ (if k > 0 then ", " else "" : String) ++ t)
    rw [textFrom, piled_cons]
    have e : (acc ++ (if k > 0 then ", " else "" : String) ++ t).length ≤ acc.length + 2 + t.length := by
      rw [strLen_append, strLen_append]
      have : (((if k > 0 then ", " else "" : String) : String) : Str).length ≤ 2 := by split <;> decide
      omega
    omega
theorem listText_up (ts : List Str) : (listText ts).length ≤ piled ts + 2 := by
  unfold listText
  rw [strLen_append]
  have := textFrom_up ts 0 "["
  have e1 : (("[" : String) : Str).length = 1 := rfl
  have e2 : (("]" : String) : Str).length = 1 := rfl
  omega
theorem tupleText_up (ts : List Str) : (tupleText ts).length ≤ piled ts + 3 := by
  unfold tupleText
  rw [strLen_append, strLen_append]
  have e1 : (("(" : String) : Str).length = 1 := rfl
  have e2 : (((if ts.length == 1 then ",)" else ")" : String) : String) : Str).length ≤ 2 := by split <;> decide
  have e3 : (Str.join ", " ts).length ≤ piled ts := by
    by_cases h : ts = []
    · subst h; decide
    · have := join_length_add ts h
      omega
  omega
theorem shB_all {k : Nat} {h : List O} : ∀ {ws : List W}, ws.all (shB k) = true → ∃ ds, ws.mapM (toD h 11) = some ds ∧ PyData.showableAll ds = true ∧ piled (PyData.shownAll ds) ≤ (k + 2) * ws.length
  | [], _ => ⟨[], rfl, rfl, Nat.zero_le _⟩
  | w :: ws, e => by
    rw [List.all_cons, Bool.and_eq_true] at e
    obtain ⟨e1, e2⟩ := e
    obtain ⟨ds, q1, q2, q3⟩ := shB_all (h := h) e2
    unfold shB at e1
    rw [Bool.and_eq_true] at e1
    obtain ⟨c, e1⟩ := e1
    cases ed : toD [] 11 w with
    | none => rw [ed] at e1; exact absurd e1 Bool.false_ne_true
    | some d =>
      rw [ed] at e1
      simp only [Bool.and_eq_true, decide_eq_true_eq] at e1
      refine ⟨d :: ds, ?_, ?_, ?_⟩
      · rw [List.mapM_cons, toD_cl h [] 11 w c, ed, q1]; rfl
      · rw [PyData.showableAll, e1.1, q2]; rfl
      · rw [PyData.shownAll, piled_cons, List.length_cons, Nat.mul_add]
        omega
/-- a list or a tuple of such values is shown -/
theorem repr_its {k : Nat} {w : W} {ws : List W} (e : its? w = some ws) (hs : ws.all (shB k) = true) (hk : (k + 2) * ws.length ≤ 100000) : ∃ x : Str, ∀ h, reprO h (.inr w) = .ok (.str x) h := by
  have key : ∃ d : PyData, d.showable = true ∧ d.shown.length ≤ 16777216 ∧ toD [] 12 w = some d := by
    obtain ⟨ds, q1, q2, q3⟩ := shB_all (h := []) hs
    cases w <;> first
      | cases e
      | skip
    · refine ⟨.tuple ds, q2, ?_, by rw [toD_tup, q1]; rfl⟩
      have := tupleText_up (PyData.shownAll ds)
      show (tupleText (PyData.shownAll ds)).length ≤ _
      omega
    · refine ⟨.list ds, q2, ?_, by rw [toD_slst, q1]; rfl⟩
      have := listText_up (PyData.shownAll ds)
      show (listText (PyData.shownAll ds)).length ≤ _
      omega
  obtain ⟨d, d1, d2, d3⟩ := key
  have c : cl w = true := by
    have : cls ws = true := by
      rw [cls_all]
      exact List.all_eq_true.mpr fun x hx => by
        have := List.all_eq_true.mp hs x hx
        unfold shB at this
        rw [Bool.and_eq_true] at this
        exact this.1
    cases w <;> first
      | (cases e; exact this)
      | cases e
  refine ⟨d.shown, fun h => repr_of (d := d) ?_ ?_⟩
  · show toD h 12 w = some d
    rw [toD_cl h [] 12 w c, d3]
  · rw [d1, decide_eq_true d2]; rfl
theorem repr_shD {h : List O} {w : W} {x : Str} (e : reprO h (.inr w) = .ok (.str x) h) : shD h w = some x := by
  unfold reprO at e
  unfold shD
  have ed : datO h (.inr w) = toD h dDepth w := rfl
  rw [ed] at e
  cases hd : toD h dDepth w with
  | none => rw [hd] at e; cases e
  | some d =>
    rw [hd] at e
    dsimp only at e
    rw [Option.bind_some]
    cases hc : (d.showable && decide (d.shown.length ≤ sizeLine)) with
    | false => rw [hc] at e; cases e
    | true =>
      rw [hc] at e
      cases e
      rfl
theorem repr_bl (b : Bool) : ∀ h, reprO h (.inr (.bl b)) = .ok (.str (if b = true then "True" else "False")) h := fun h => by
  have : datO h (.inr (.bl b)) = some (.bool b) := rfl
  rw [repr_of this (by cases b <;> decide)]
  cases b <;> rfl
end MP
set_option maxRecDepth 100000
set_option maxHeartbeats 4000000
/-! lists and tuples, those of the small heap with them -/
namespace MP
open PySem PySem.Spec PyProof.Rows L2
def itsH (h : List O) (w : W) : Option (List W) := match w with
  | .ref n => (match h[n]? with
    | some (.lst ws) => some ws
    | _ => none)
  | w => its? w
/-- no reference but to a list -/
def nrH (h : List O) (w : W) : Bool := nr w || (itsH h w).isSome
theorem itsH_nr {h : List O} {w : W} (e : nr w = true) : itsH h w = its? w := by
  cases w <;> first | rfl | exact absurd e Bool.false_ne_true
theorem itsH_of {h : List O} {w : W} {ws : List W} (e : its? w = some ws) : itsH h w = some ws := by rw [itsH_nr (nr_its e), e]
theorem itsH_ref {h : List O} {n : Nat} {ws : List W} (e : h[n]? = some (.lst ws)) : itsH h (.ref n) = some ws := by
  unfold itsH
  dsimp only
  rw [e]
theorem itsH_cases {h : List O} {w : W} {ws : List W} (e : itsH h w = some ws) : its? w = some ws ∨ ∃ n, w = .ref n ∧ h[n]? = some (.lst ws) := by
  by_cases hw : nr w = true
  · exact .inl (by rw [← itsH_nr (h := h) hw]; exact e)
  · cases w <;> first
      | exact absurd rfl hw
      | skip
    rename_i n
    refine .inr ⟨n, rfl, ?_⟩
    unfold itsH at e
    dsimp only at e
    split at e
    · rename_i q
      cases e
      exact q
    · cases e
theorem itsH_app {h o : List O} {w : W} {ws : List W} (e : itsH h w = some ws) : itsH (h ++ o) w = some ws := by
  rcases itsH_cases e with e1 | ⟨n, rfl, e1⟩
  · exact itsH_of e1
  · exact itsH_ref (by rw [List.getElem?_append_left (List.getElem?_eq_some_iff.mp e1).1]; exact e1)
theorem isxH {C : Cn} {h : List O} {w : W} (e : nrH h w = true) : isxW C ["list", "tuple"] w h = .ok (.bl (itsH h w).isSome) h := by
  by_cases hw : nr w = true
  · rw [isx_nr h hw, itsH_nr hw]
    have e2 : (["list", "tuple"].any fun T => isiB (tyN w) T) = (its? w).isSome := by
      cases w <;> first | (simp [tyN, its?, isiB]; done) | exact absurd hw Bool.false_ne_true
    rw [e2]
  · unfold nrH at e
    rw [Bool.eq_false_iff.mpr hw, Bool.false_or] at e
    obtain ⟨ws, e⟩ := Option.isSome_iff_exists.mp e
    rcases itsH_cases e with e1 | ⟨n, rfl, e1⟩
    · exact absurd (nr_its e1) hw
    · rw [e]
      have i1 : insW h (.ref n) = none := by
        unfold insW
        dsimp only
        rw [e1]
      have i2 : wType (.ref n) h = some "list" := by
        unfold wType
        dsimp only
        rw [e1]
      unfold isxW
      rw [i1]
      show isiW ["list", "tuple"] (.ref n) h = _
      unfold isiW
      rw [i2]
      simp [isiB]
theorem soHs (b : Bool) {h : List O} {w : W} {ws : List W} (e : itsH h w = some ws) : ∃ gs, (∀ o, seqO b (h ++ o) (.inr w) = .ok (ws, gs) (h ++ o)) ∧ ∀ o, gsOk (h ++ o) gs = true := by
  rcases itsH_cases e with e1 | ⟨n, rfl, e1⟩
  · exact ⟨[], fun o => so_its b _ e1, fun _ => rfl⟩
  · have e2 : ∀ o, (h ++ o)[n]? = some (.lst ws) := fun o => by rw [List.getElem?_append_left (List.getElem?_eq_some_iff.mp e1).1]; exact e1
    refine ⟨[(n, ws)], fun o => ?_, fun o => gsOk_one (e2 o)⟩
    unfold seqO
    dsimp only
    rw [e2 o]
theorem soH (b : Bool) {h : List O} {w : W} {ws : List W} (e : itsH h w = some ws) : ∃ gs, seqO b h (.inr w) = .ok (ws, gs) h ∧ gsOk h gs = true := by
  obtain ⟨gs, e1, e2⟩ := soHs b e
  have a := e1 []
  have c := e2 []
  rw [List.append_nil] at a c
  exact ⟨gs, a, c⟩
theorem for_consG {f : W → Lo → List O → RS} {gs : Gd} {w : W} {ws : List W} {ℓ : Lo} {h : List O} (e : gsOk h gs = true) : forL f gs (w :: ws) ℓ h = turnS (f w ℓ h) (forL f gs ws) := by
  show chkS (gsOk h gs) _ = _
  rw [e]
  rfl
theorem for_nilG {f : W → Lo → List O → RS} {gs : Gd} {ℓ : Lo} {h : List O} (e : gsOk h gs = true) : forL f gs [] ℓ h = .ok .nx ℓ h := by
  show chkS (gsOk h gs) _ = _
  rw [e]
  rfl
end MP
set_option maxRecDepth 100000
set_option maxHeartbeats 4000000
namespace L08
open PySem PySem.Spec PyProof.Rows MP
def top (i : Nat) : Stmt := PySem.Challenge.pw_seenchoices_k08_edit_rows_read.main.body.getD i (.Pass ⟨0, 0, 0, 0⟩)
def clm (i j : Nat) : Stmt := match top i with
  | .ClassDef _ _ _ body .. => body.getD j (.Pass ⟨0, 0, 0, 0⟩)
  | _ => .Pass ⟨0, 0, 0, 0⟩
def d_Scheme___init__ : FD := ⟨["self", "costs", "add", "drop", "swap", "groups", "turn"], ["self", "costs", "add", "drop", "swap", "groups", "turn", "name"],
  (.cons (.sat (.var 0) "own_costs" (.call "checked_costs" (.cons (.var 1) .nil))) (.cons (.for (.name 7) (.val (.lst (.cons (.var 2) (.cons (.var 3) (.cons (.var 4) .nil))))) (.cons (.ife (.oin true (.var 7) (.var 0)) (.cons .nev .nil) .nil) .nil)) (.cons (.sat (.var 0) "own_edits" (.tup (.cons (.var 2) (.cons (.var 3) (.cons (.var 4) .nil))))) (.cons (.sat (.var 0) "own_groups" (.meth (.var 0) "checked_groups" (.cons (.var 5) .nil) [] .nil)) (.cons (.ife (.boolop .And (.cons (.cmp .IsNot (.var 6) .non) (.cons (.oin true (.var 6) (.var 0)) .nil))) (.cons .nev .nil) .nil) (.cons (.sat (.var 0) "own_turn" (.var 6)) (.cons (.sat (.var 0) "own_known" (.frd .nil)) .nil))))))), false⟩
def d_Scheme_checked_groups : FD := ⟨["self", "groups"], ["self", "groups", "found", "taken", "item", "letters", ".0", "letter"],
  (.cons (.ife (.not (.call "is_list" (.cons (.var 1) .nil))) (.cons (.raise "InvalidPart" "value" (.var 1)) .nil) .nil) (.cons (.asg (.tup (.cons (.name 2) (.cons (.name 3) .nil))) (.tup (.cons (.lst .nil) (.cons (.str "") .nil)))) (.cons (.for (.name 4) (.val (.var 1)) (.cons (.ife (.boolop .Or (.cons (.not (.call "is_row_words" (.cons (.var 4) (.cons (.int 2) .nil)))) (.cons (.not (.call "is_spelled" (.cons (.sub (.var 4) (.int 0)) (.cons (.int 2) (.cons (.glob "MOST_LETTERS") .nil))))) .nil))) (.cons (.raise "InvalidGroup" "value" (.var 4)) .nil) .nil) (.cons (.asg (.name 5) (.bm "join" (.str "") (.cons (.srt (.sub (.var 4) (.int 0))) .nil))) (.cons (.ife (.boolop .Or (.cons (.cmp .Lt (.p1 .lset (.sub (.var 4) (.int 0))) (.blt "len" (.cons (.var 5) .nil))) (.cons (.blt "any" (.cons (.lcomp (.cmp .In (.var 7) (.var 3)) (.name 7) (.val (.var 5)) .none [6, 7]) .nil)) .nil))) (.cons (.raise "InvalidGroup" "value" (.var 4)) .nil) .nil) (.cons (.ife (.oin true (.sub (.var 4) (.int 1)) (.var 0)) (.cons .nev .nil) .nil) (.cons (.asg (.name 3) (.bin .Add (.var 3) (.var 5))) (.cons (.expr (.bm "append" (.var 2) (.cons (.tup (.cons (.var 5) (.cons (.sub (.var 4) (.int 1)) .nil))) .nil))) .nil))))))) (.cons (.ret (.blt "tuple" (.cons (.var 2) .nil))) .nil)))), true⟩
def d_Scheme_costs : FD := ⟨["self"], ["self"],
  (.cons (.ret (.attr (.var 0) "own_costs")) .nil), false⟩
def d_Scheme_cost_to_add : FD := ⟨["self"], ["self"],
  (.cons (.ret (.sub (.attr (.var 0) "own_edits") (.int 0))) .nil), false⟩
def d_Scheme_cost_to_drop : FD := ⟨["self"], ["self"],
  (.cons (.ret (.sub (.attr (.var 0) "own_edits") (.int 1))) .nil), false⟩
def d_Scheme_cost_to_turn : FD := ⟨["self"], ["self"],
  (.cons (.ret (.attr (.var 0) "own_turn")) .nil), false⟩
def d_Scheme___contains__ : FD := ⟨["self", "value"], ["self", "value"],
  (.cons (.ret (.boolop .And (.cons (.isx (.var 1) ["str"]) (.cons (.cmp .In (.var 1) (.attr (.var 0) "own_costs")) .nil)))) .nil), false⟩
def d_Scheme_swap_cost : FD := ⟨["self", "one", "other"], ["self", "one", "other", "letters", "cost"],
  (.cons (.ife (.not (.call "is_letter" (.cons (.var 1) .nil))) (.cons (.raise "InvalidLetter" "value" (.var 1)) .nil) .nil) (.cons (.ife (.boolop .Or (.cons (.not (.call "is_letter" (.cons (.var 2) .nil))) (.cons (.cmp .Eq (.var 2) (.var 1)) .nil))) (.cons (.raise "InvalidLetter" "value" (.var 2)) .nil) .nil) (.cons (.for (.tup (.cons (.name 3) (.cons (.name 4) .nil))) (.val (.attr (.var 0) "own_groups")) (.cons (.ife (.boolop .And (.cons (.cmp .In (.var 1) (.var 3)) (.cons (.cmp .In (.var 2) (.var 3)) .nil))) (.cons (.ret (.var 4)) .nil) .nil) .nil)) (.cons (.ret (.sub (.attr (.var 0) "own_edits") (.int 2))) .nil)))), false⟩
def d_Scheme_step_cost : FD := ⟨["self", "step", "letter"], ["self", "step", "letter"],
  (.cons (.ife (.boolop .Or (.cons (.not (.call "is_step" (.cons (.var 1) .nil))) (.cons (.boolop .And (.cons (.cmp .Eq (.sub (.var 1) (.int 0)) (.glob "TURN")) (.cons (.cmp .Is (.attr (.var 0) "own_turn") .non) .nil))) .nil))) (.cons (.raise "InvalidStep" "value" (.var 1)) .nil) .nil) (.cons (.ife (.cmp .Eq (.sub (.var 1) (.int 0)) (.glob "SWAP")) (.cons (.ife (.boolop .Or (.cons (.not (.call "is_letter" (.cons (.var 2) .nil))) (.cons (.cmp .Eq (.var 2) (.sub (.var 1) (.int 1))) .nil))) (.cons (.raise "InvalidLetter" "value" (.var 2)) .nil) .nil) (.cons (.ret (.meth (.var 0) "swap_cost" (.cons (.var 2) (.cons (.sub (.var 1) (.int 1)) .nil)) [] .nil)) .nil)) .nil) (.cons (.ret (.dg1 (.frd (.cons (.glob "ADD") (.attr (.var 0) "cost_to_add") (.cons (.glob "DROP") (.attr (.var 0) "cost_to_drop") (.cons (.glob "TURN") (.attr (.var 0) "own_turn") .nil)))) (.sub (.var 1) (.int 0)))) .nil))), false⟩
def d__wall : FD := ⟨["k"], ["k"],
  (.cons (.while (.bl true) (.cons .pass .nil)) .nil), false⟩
def d_is_list : FD := ⟨["value"], ["value"],
  (.cons (.ret (.isx (.var 0) ["list", "tuple"])) .nil), false⟩
def d_is_row_words : FD := ⟨["value", "many"], ["value", "many"],
  (.cons (.ret (.boolop .And (.cons (.call "is_list" (.cons (.var 0) .nil)) (.cons (.cmp .Eq (.blt "len" (.cons (.var 0) .nil)) (.var 1)) .nil)))) .nil), false⟩
def d_is_spelled : FD := ⟨["value", "low", "high"], ["value", "low", "high", ".0", "letter"],
  (.cons (.ret (.boolop .And (.cons (.isx (.var 0) ["str"]) (.cons (.chain .LtE .LtE (.var 1) (.blt "len" (.cons (.var 0) .nil)) (.var 2)) (.cons (.blt "all" (.cons (.lcomp (.cmp .In (.var 4) (.glob "LETTERS")) (.name 4) (.val (.var 0)) .none [3, 4]) .nil)) .nil))))) .nil), false⟩
def d_is_word : FD := ⟨["value"], ["value"],
  (.cons (.ret (.call "is_spelled" (.cons (.var 0) (.cons (.int 0) (.cons (.glob "LONGEST_WORD") .nil))))) .nil), false⟩
def d_is_name : FD := ⟨["value"], ["value"],
  (.cons (.ret (.call "is_spelled" (.cons (.var 0) (.cons (.int 1) (.cons (.glob "LONGEST_NAME") .nil))))) .nil), false⟩
def d_is_letter : FD := ⟨["value"], ["value"],
  (.cons (.ret (.call "is_spelled" (.cons (.var 0) (.cons (.int 1) (.cons (.int 1) .nil))))) .nil), false⟩
def d_checked_costs : FD := ⟨["costs"], ["costs", "found", "item"],
  (.cons (.ife (.boolop .Or (.cons (.not (.call "is_list" (.cons (.var 0) .nil))) (.cons (.not (.chain .LtE .LtE (.int 1) (.blt "len" (.cons (.var 0) .nil)) (.glob "MOST_COSTS"))) .nil))) (.cons (.raise "InvalidPart" "value" (.var 0)) .nil) .nil) (.cons (.asg (.name 1) (.lst .nil)) (.cons (.for (.name 2) (.val (.var 0)) (.cons (.ife (.not (.call "is_name" (.cons (.var 2) .nil))) (.cons (.raise "InvalidName" "value" (.var 2)) .nil) .nil) (.cons (.ife (.cmp .In (.var 2) (.var 1)) (.cons (.raise "Duplicate" "label" (.var 2)) .nil) .nil) (.cons (.expr (.bm "append" (.var 1) (.cons (.var 2) .nil))) .nil)))) (.cons (.ret (.blt "tuple" (.cons (.var 1) .nil))) .nil)))), true⟩
def d_is_step : FD := ⟨["value"], ["value"],
  (.cons (.ife (.boolop .Or (.cons (.not (.call "is_list" (.cons (.var 0) .nil))) (.cons (.cmp .Eq (.blt "len" (.cons (.var 0) .nil)) (.int 0)) (.cons (.not (.isx (.sub (.var 0) (.int 0)) ["str"])) .nil)))) (.cons (.ret (.bl false)) .nil) .nil) (.cons (.ife (.cmp .In (.sub (.var 0) (.int 0)) (.lst (.cons (.glob "KEEP") (.cons (.glob "DROP") (.cons (.glob "TURN") .nil))))) (.cons (.ret (.cmp .Eq (.blt "len" (.cons (.var 0) .nil)) (.int 1))) .nil) .nil) (.cons (.ret (.boolop .And (.cons (.cmp .In (.sub (.var 0) (.int 0)) (.lst (.cons (.glob "ADD") (.cons (.glob "SWAP") .nil)))) (.cons (.cmp .Eq (.blt "len" (.cons (.var 0) .nil)) (.int 2)) (.cons (.call "is_letter" (.cons (.sub (.var 0) (.int 1)) .nil)) .nil))))) .nil))), false⟩
def d_need_scheme : FD := ⟨["value"], ["value"],
  (.cons (.ife (.not (.isc (.var 0) "Scheme")) (.cons (.raise "NotScheme" "value" (.var 0)) .nil) .nil) .nil), false⟩
def d_need_word : FD := ⟨["value"], ["value"],
  (.cons (.ife (.not (.call "is_word" (.cons (.var 0) .nil))) (.cons (.raise "InvalidWord" "value" (.var 0)) .nil) .nil) .nil), false⟩
def d_step_text : FD := ⟨["scheme", "word", "at", "step"], ["scheme", "word", "at", "step", "kind", "left"],
  (.cons (.ife (.not (.call "is_step" (.cons (.var 3) .nil))) (.cons (.ret .non) .nil) .nil) (.cons (.par 4 5 (.sub (.var 3) (.int 0)) (.bin .Sub (.blt "len" (.cons (.var 1) .nil)) (.var 2))) (.cons (.ife (.cmp .Eq (.var 4) (.glob "ADD")) (.cons (.ret (.tup (.cons (.sub (.var 3) (.int 1)) (.cons (.int 0) .nil)))) .nil) .nil) (.cons (.ife (.cmp .Eq (.var 4) (.glob "TURN")) (.cons (.ife (.boolop .Or (.cons (.cmp .Is (.attr (.var 0) "cost_to_turn") .non) (.cons (.cmp .Lt (.var 5) (.int 2)) (.cons (.cmp .Eq (.sub (.var 1) (.var 2)) (.sub (.var 1) (.bin .Add (.var 2) (.int 1)))) .nil)))) (.cons (.ret .non) .nil) .nil) (.cons (.ret (.tup (.cons (.bin .Add (.sub (.var 1) (.bin .Add (.var 2) (.int 1))) (.sub (.var 1) (.var 2))) (.cons (.int 2) .nil)))) .nil)) .nil) (.cons (.ife (.boolop .Or (.cons (.cmp .Lt (.var 5) (.int 1)) (.cons (.boolop .And (.cons (.cmp .Eq (.var 4) (.glob "SWAP")) (.cons (.cmp .Eq (.sub (.var 3) (.int 1)) (.sub (.var 1) (.var 2))) .nil))) .nil))) (.cons (.ret .non) .nil) .nil) (.cons (.ret (.tup (.cons (.ife (.cmp .NotEq (.var 4) (.glob "SWAP")) (.dix (.frd (.cons (.glob "KEEP") (.sub (.var 1) (.var 2)) (.cons (.glob "DROP") (.str "") .nil))) (.var 4)) (.sub (.var 3) (.int 1))) (.cons (.int 1) .nil)))) .nil)))))), false⟩
def d_read_row : FD := ⟨["scheme", "word", "row"], ["scheme", "word", "row", "text", "at", "step", "found"],
  (.cons (.asg (.tup (.cons (.name 3) (.cons (.name 4) .nil))) (.tup (.cons (.str "") (.cons (.int 0) .nil)))) (.cons (.ife (.not (.call "is_list" (.cons (.var 2) .nil))) (.cons (.ret .non) .nil) .nil) (.cons (.for (.name 5) (.val (.var 2)) (.cons (.asg (.name 6) (.call "step_text" (.cons (.var 0) (.cons (.var 1) (.cons (.var 4) (.cons (.var 5) .nil)))))) (.cons (.ife (.cmp .Is (.var 6) .non) (.cons (.ret .non) .nil) .nil) (.cons (.asg (.name 3) (.bin .Add (.var 3) (.sub (.var 6) (.int 0)))) (.cons (.asg (.name 4) (.bin .Add (.var 4) (.sub (.var 6) (.int 1)))) .nil))))) (.cons (.ret (.ife (.boolop .And (.cons (.cmp .Eq (.var 4) (.blt "len" (.cons (.var 1) .nil))) (.cons (.call "is_word" (.cons (.var 3) .nil)) .nil))) (.var 3) .non)) .nil)))), false⟩
def d_is_row_rows : FD := ⟨["scheme", "word", "value"], ["scheme", "word", "value"],
  (.cons (.expr (.call "need_scheme" (.cons (.var 0) .nil))) (.cons (.expr (.call "need_word" (.cons (.var 1) .nil))) (.cons (.ret (.cmp .IsNot (.call "read_row" (.cons (.var 0) (.cons (.var 1) (.cons (.var 2) .nil)))) .non)) .nil))), false⟩
def d_need_row : FD := ⟨["scheme", "word", "row"], ["scheme", "word", "row"],
  (.cons (.ife (.not (.call "is_row_rows" (.cons (.var 0) (.cons (.var 1) (.cons (.var 2) .nil))))) (.cons (.raise "InvalidEdits" "value" (.var 2)) .nil) .nil) .nil), false⟩
def d_written : FD := ⟨["scheme", "word", "row"], ["scheme", "word", "row"],
  (.cons (.expr (.call "need_row" (.cons (.var 0) (.cons (.var 1) (.cons (.var 2) .nil))))) (.cons (.ret (.call "read_row" (.cons (.var 0) (.cons (.var 1) (.cons (.var 2) .nil))))) .nil)), false⟩
def d_met : FD := ⟨["word", "row"], ["word", "row", "found", "at", "step", "many"],
  (.cons (.par 2 3 (.lst .nil) (.int 0)) (.cons (.for (.name 4) (.val (.var 1)) (.cons (.asg (.name 5) (.dg2 (.frd (.cons (.glob "ADD") (.int 0) (.cons (.glob "TURN") (.int 2) .nil))) (.sub (.var 4) (.int 0)) (.int 1))) (.cons (.expr (.bm "append" (.var 2) (.cons (.tup (.cons (.blt "tuple" (.cons (.var 4) .nil)) (.cons (.slice (.var 0) (.some (.var 3)) (.some (.bin .Add (.var 3) (.var 5)))) .nil))) .nil))) (.cons (.asg (.name 3) (.bin .Add (.var 3) (.var 5))) .nil)))) (.cons (.ret (.var 2)) .nil))), true⟩
def d_counted : FD := ⟨["scheme", "counts", "step", "letters"], ["scheme", "counts", "step", "letters", "cost", ".0", "name", "count"],
  (.cons (.asg (.name 4) (.meth (.var 0) "step_cost" (.cons (.var 2) (.cons (.ife (.cmp .Eq (.sub (.var 2) (.int 0)) (.glob "SWAP")) (.var 3) .non) .nil)) [] .nil)) (.cons (.ret (.blt "tuple" (.cons (.lcomp (.bin .Add (.var 7) (.int1 (.cmp .Eq (.var 6) (.var 4)))) (.tup (.cons (.name 6) (.cons (.name 7) .nil))) (.zip (.attr (.var 0) "costs") (.var 1)) .none [5, 6, 7]) .nil))) .nil)), false⟩
def d_counts_of : FD := ⟨["scheme", "word", "row"], ["scheme", "word", "row", "counts", "step", "letters", ".0", "name"],
  (.cons (.expr (.call "need_row" (.cons (.var 0) (.cons (.var 1) (.cons (.var 2) .nil))))) (.cons (.asg (.name 3) (.blt "tuple" (.cons (.lcomp (.int 0) (.name 7) (.val (.attr (.var 0) "costs")) .none [6, 7]) .nil))) (.cons (.for (.tup (.cons (.name 4) (.cons (.name 5) .nil))) (.val (.call "met" (.cons (.var 1) (.cons (.var 2) .nil)))) (.cons (.asg (.name 3) (.call "counted" (.cons (.var 0) (.cons (.var 3) (.cons (.var 4) (.cons (.var 5) .nil)))))) .nil)) (.cons (.ret (.var 3)) .nil)))), false⟩
def d_turned_back : FD := ⟨["scheme", "word", "row"], ["scheme", "word", "row", "found", "step", "letters"],
  (.cons (.expr (.call "need_row" (.cons (.var 0) (.cons (.var 1) (.cons (.var 2) .nil))))) (.cons (.asg (.name 3) (.lst .nil)) (.cons (.for (.tup (.cons (.name 4) (.cons (.name 5) .nil))) (.val (.call "met" (.cons (.var 1) (.cons (.var 2) .nil)))) (.cons (.ife (.cmp .Eq (.sub (.var 4) (.int 0)) (.glob "ADD")) (.cons (.expr (.bm "append" (.var 3) (.cons (.tup (.cons (.glob "DROP") .nil)) .nil))) .nil) (.cons (.ife (.cmp .Eq (.sub (.var 4) (.int 0)) (.glob "DROP")) (.cons (.expr (.bm "append" (.var 3) (.cons (.tup (.cons (.glob "ADD") (.cons (.var 5) .nil))) .nil))) .nil) (.cons (.expr (.bm "append" (.var 3) (.cons (.ife (.cmp .Eq (.sub (.var 4) (.int 0)) (.glob "SWAP")) (.tup (.cons (.glob "SWAP") (.cons (.var 5) .nil))) (.var 4)) .nil))) .nil)) .nil)) .nil)) (.cons (.ret (.var 3)) .nil)))), false⟩
def d_mirrored : FD := ⟨["scheme", "word", "row"], ["scheme", "word", "row", ".0", "step"],
  (.cons (.expr (.call "need_row" (.cons (.var 0) (.cons (.var 1) (.cons (.var 2) .nil))))) (.cons (.ret (.rev (.lcomp (.blt "tuple" (.cons (.var 4) .nil)) (.name 4) (.val (.var 2)) .none [3, 4]))) .nil)), false⟩
def d__law_cell : FD := ⟨["_law_script", "_law_index"], ["_law_script", "_law_index"],
  (.cons (.ife (.cmp .Lt (.var 1) (.blt "len" (.cons (.var 0) .nil))) (.cons (.ret (.sub (.var 0) (.var 1))) .nil) .nil) (.cons (.ret (.bin .Add (.bin .Mult (.int 160481219) (.var 1)) (.int 29))) .nil)), false⟩
def d__law_bag : FD := ⟨["_law_cell_here"], ["_law_cell_here"],
  (.cons (.ret (.lst (.cons (.blt "max" (.cons (.int 0) (.cons (.bin .Sub (.var 0) (.bin .Pow (.int 10) (.int 18))) .nil))) (.cons (.bin .Mod (.var 0) (.int 2147483629)) (.cons (.int 0) .nil))))) .nil), false⟩
def d__law_take : FD := ⟨["_law_bag_here", "_law_many"], ["_law_bag_here", "_law_many", "_law_digit", "_law_mixed"],
  (.cons (.ife (.cmp .Gt (.sub (.var 0) (.int 0)) (.int 0)) (.cons (.asg (.name 2) (.bin .Mod (.sub (.var 0) (.int 0)) (.var 1))) (.cons (.asg (.sub (.var 0) (.int 0)) (.bin .FloorDiv (.sub (.var 0) (.int 0)) (.var 1))) (.cons (.ret (.var 2)) .nil))) .nil) (.cons (.asg (.sub (.var 0) (.int 2)) (.bin .Add (.sub (.var 0) (.int 2)) (.int 1))) (.cons (.asg (.name 3) (.bin .Mod (.bin .Pow (.bin .Add (.bin .Add (.sub (.var 0) (.int 1)) (.bin .Mult (.int 160481219) (.sub (.var 0) (.int 2)))) (.int 29)) (.int 5)) (.int 2147483647))) (.cons (.asg (.name 3) (.bin .Mod (.bin .Pow (.bin .Add (.var 3) (.bin .Mult (.int 103217) (.sub (.var 0) (.int 2)))) (.int 3)) (.int 2147483587))) (.cons (.ret (.bin .Mod (.bin .FloorDiv (.var 3) (.int 16)) (.var 1))) .nil))))), false⟩
def d__law_word : FD := ⟨["_law_bag_here", "_law_letters_here", "_law_longest"], ["_law_bag_here", "_law_letters_here", "_law_longest", ".0", "_law_lap"],
  (.cons (.ret (.bm "join" (.str "") (.cons (.lcomp (.sub (.var 1) (.call "_law_take" (.cons (.var 0) (.cons (.blt "len" (.cons (.var 1) .nil)) .nil)))) (.name 4) (.range (.cons (.call "_law_take" (.cons (.var 0) (.cons (.bin .Add (.var 2) (.int 1)) .nil))) .nil)) .none [3, 4]) .nil))) .nil), false⟩
def d__law_letters : FD := ⟨["_law_bag_here"], ["_law_bag_here", "_law_some"],
  (.cons (.asg (.name 1) (.sub (.lst (.cons (.str "ab") (.cons (.str "abc") (.cons (.str "aez") (.cons (.str "abcd") (.cons (.str "zyxa") (.cons (.str "abcdef") .nil))))))) (.call "_law_take" (.cons (.var 0) (.cons (.int 6) .nil))))) (.cons (.ret (.var 1)) .nil)), false⟩
def d__law_model : FD := ⟨["_law_bag_here", "_law_letters_here"], ["_law_bag_here", "_law_letters_here", "_law_stock", "_law_names", "_law_some", "_law_parts", "_law_last", ".0", "_law_lap"],
  (.cons (.asg (.name 2) (.frz (.lst (.cons (.frz (.lst (.cons (.str "edit") (.cons (.str "near") (.cons (.str "turn") (.cons (.str "x") .nil)))))) (.cons (.frz (.lst (.cons (.str "a") (.cons (.str "ab") (.cons (.str "abc") (.cons (.str "swap") .nil)))))) (.cons (.frz (.lst (.cons (.str "z") (.cons (.str "keep") (.cons (.str "zzzzzzzz") (.cons (.str "drop") .nil)))))) .nil)))))) (.cons (.asg (.name 3) (.slice (.sub (.var 2) (.call "_law_take" (.cons (.var 0) (.cons (.int 3) .nil)))) .none (.some (.bin .Add (.int 1) (.call "_law_take" (.cons (.var 0) (.cons (.int 4) .nil))))))) (.cons (.asg (.name 4) (.frz (.lcomp (.sub (.var 3) (.call "_law_take" (.cons (.var 0) (.cons (.blt "len" (.cons (.var 3) .nil)) .nil)))) (.name 8) (.range (.cons (.int 5) .nil)) .none [7, 8]))) (.cons (.asg (.name 5) (.lst (.cons (.frz (.lst .nil)) (.cons (.frz (.lst (.cons (.tup (.cons (.slice (.var 1) .none (.some (.int 2))) (.cons (.sub (.var 4) (.int 3)) .nil))) .nil))) (.cons (.frz (.lst (.cons (.tup (.cons (.var 1) (.cons (.sub (.var 4) (.int 4)) .nil))) .nil))) .nil))))) (.cons (.expr (.bm "append" (.var 5) (.cons (.frz (.lst (.cons (.tup (.cons (.str "qr") (.cons (.sub (.var 4) (.int 4)) .nil))) (.cons (.tup (.cons (.str "st") (.cons (.sub (.var 4) (.int 3)) .nil))) (.cons (.tup (.cons (.slice (.var 1) .none (.some (.int 2))) (.cons (.sub (.var 4) (.int 4)) .nil))) (.cons (.tup (.cons (.bin .Add (.slice (.var 1) (.some (.int 2)) .none) (.str "pk")) (.cons (.sub (.var 4) (.int 3)) .nil))) .nil)))))) .nil))) (.cons (.expr (.bm "append" (.var 5) (.cons (.frz (.lst (.cons (.tup (.cons (.p1 (.sst (some (1)) none (-1)) (.var 1)) (.cons (.sub (.var 4) (.int 3)) .nil))) (.cons (.tup (.cons (.bin .Add (.slice (.var 1) (.some (.int 2)) .none) (.str "qr")) (.cons (.sub (.var 4) (.int 4)) .nil))) .nil)))) .nil))) (.cons (.asg (.name 6) (.sub (.lst (.cons .non (.cons (.sub (.var 3) (.call "_law_take" (.cons (.var 0) (.cons (.blt "len" (.cons (.var 3) .nil)) .nil)))) .nil))) (.bin .Mod (.call "_law_take" (.cons (.var 0) (.cons (.int 3) .nil))) (.int 2)))) (.cons (.ret (.tup (.cons (.var 3) (.cons (.sub (.var 4) (.int 0)) (.cons (.sub (.var 4) (.int 1)) (.cons (.sub (.var 4) (.int 2)) (.cons (.sub (.var 5) (.call "_law_take" (.cons (.var 0) (.cons (.int 5) .nil)))) (.cons (.var 6) .nil)))))))) .nil)))))))), true⟩
def d__law_made : FD := ⟨["_law_model_here"], ["_law_model_here"],
  (.cons (.ret (.new "Scheme" (.cons (.sub (.var 0) (.int 0)) .nil) ["add", "drop", "swap", "groups", "turn"] (.cons (.sub (.var 0) (.int 1)) (.cons (.sub (.var 0) (.int 2)) (.cons (.sub (.var 0) (.int 3)) (.cons (.sub (.var 0) (.int 4)) (.cons (.sub (.var 0) (.int 5)) .nil))))))) .nil), false⟩
def d__law_swap_name : FD := ⟨["_law_model_here", "_law_one_here", "_law_other"], ["_law_model_here", "_law_one_here", "_law_other", "_law_row_here"],
  (.cons (.for (.name 3) (.val (.sub (.var 0) (.int 4))) (.cons (.ife (.boolop .And (.cons (.cmp .In (.var 1) (.sub (.var 3) (.int 0))) (.cons (.cmp .In (.var 2) (.sub (.var 3) (.int 0))) .nil))) (.cons (.ret (.sub (.var 3) (.int 1))) .nil) .nil) .nil)) (.cons (.ret (.sub (.var 0) (.int 3))) .nil)), false⟩
def d__law_one : FD := ⟨["_law_model_here", "_law_name"], ["_law_model_here", "_law_name", ".0", "_law_each"],
  (.cons (.ret (.blt "tuple" (.cons (.lcomp (.int1 (.cmp .Eq (.var 3) (.var 1))) (.name 3) (.val (.sub (.var 0) (.int 0))) .none [2, 3]) .nil))) .nil), false⟩
def d__law_plus : FD := ⟨["_law_one_here", "_law_other"], ["_law_one_here", "_law_other", ".0", "_law_left", "_law_right_here"],
  (.cons (.ret (.blt "tuple" (.cons (.lcomp (.bin .Add (.var 3) (.var 4)) (.tup (.cons (.name 3) (.cons (.name 4) .nil))) (.zip (.var 0) (.var 1)) .none [2, 3, 4]) .nil))) .nil), false⟩
def d__law_read : FD := ⟨["_law_model_here", "_law_word_here", "_law_row_here"], ["_law_model_here", "_law_word_here", "_law_row_here", "_law_text", "_law_rest", "_law_many", "_law_step"],
  (.cons (.ife (.not (.isx (.var 2) ["list", "tuple"])) (.cons (.ret .non) .nil) .nil) (.cons (.par3 3 4 5 (.str "") (.var 1) (.call "_law_one" (.cons (.var 0) (.cons .non .nil)))) (.cons (.for (.name 6) (.val (.var 2)) (.cons (.ife (.boolop .Or (.cons (.not (.isx (.var 6) ["list", "tuple"])) (.cons (.not (.call "_law_is_step" (.cons (.frz (.blt "list" (.cons (.var 6) .nil))) .nil))) .nil))) (.cons (.ret .non) .nil) .nil) (.cons (.ife (.cmp .Eq (.sub (.var 6) (.int 0)) (.str "add")) (.cons (.par 3 5 (.bin .Add (.var 3) (.sub (.var 6) (.int 1))) (.call "_law_plus" (.cons (.var 5) (.cons (.call "_law_one" (.cons (.var 0) (.cons (.sub (.var 0) (.int 1)) .nil))) .nil)))) .nil) (.cons (.ife (.cmp .Eq (.sub (.var 6) (.int 0)) (.str "turn")) (.cons (.ife (.boolop .Or (.cons (.cmp .Is (.sub (.var 0) (.int 5)) .non) (.cons (.cmp .Lt (.blt "len" (.cons (.var 4) .nil)) (.int 2)) (.cons (.cmp .Eq (.sub (.var 4) (.int 0)) (.sub (.var 4) (.int 1))) .nil)))) (.cons (.ret .non) .nil) .nil) (.cons (.par 3 5 (.bin .Add (.bin .Add (.var 3) (.sub (.var 4) (.int 1))) (.sub (.var 4) (.int 0))) (.call "_law_plus" (.cons (.var 5) (.cons (.call "_law_one" (.cons (.var 0) (.cons (.sub (.var 0) (.int 5)) .nil))) .nil)))) (.cons (.asg (.name 4) (.slice (.var 4) (.some (.int 2)) .none)) .nil))) (.cons (.ife (.boolop .Or (.cons (.cmp .Eq (.var 4) (.str "")) (.cons (.boolop .And (.cons (.cmp .Eq (.sub (.var 6) (.int 0)) (.str "swap")) (.cons (.cmp .Eq (.sub (.var 6) (.int 1)) (.sub (.var 4) (.int 0))) .nil))) .nil))) (.cons (.ret .non) .nil) (.cons (.ife (.cmp .Eq (.sub (.var 6) (.int 0)) (.str "drop")) (.cons (.asg (.name 5) (.call "_law_plus" (.cons (.var 5) (.cons (.call "_law_one" (.cons (.var 0) (.cons (.sub (.var 0) (.int 2)) .nil))) .nil)))) .nil) .nil) (.cons (.ife (.cmp .Eq (.sub (.var 6) (.int 0)) (.str "swap")) (.cons (.asg (.name 5) (.call "_law_plus" (.cons (.var 5) (.cons (.call "_law_one" (.cons (.var 0) (.cons (.call "_law_swap_name" (.cons (.var 0) (.cons (.sub (.var 4) (.int 0)) (.cons (.sub (.var 6) (.int 1)) .nil)))) .nil))) .nil)))) .nil) .nil) (.cons (.par 3 4 (.bin .Add (.var 3) (.dg2 (.frd (.cons (.str "drop") (.str "") (.cons (.str "keep") (.sub (.var 4) (.int 0)) .nil))) (.sub (.var 6) (.int 0)) (.sub (.var 6) (.neg (.int 1))))) (.slice (.var 4) (.some (.int 1)) .none)) .nil)))) .nil)) .nil)) .nil))) (.cons (.ret (.ife (.boolop .And (.cons (.cmp .Eq (.var 4) (.str "")) (.cons (.cmp .Lt (.blt "len" (.cons (.var 3) .nil)) (.int 7)) .nil))) (.tup (.cons (.var 3) (.cons (.var 5) .nil))) .non)) .nil)))), false⟩
def d__law_is_step : FD := ⟨["_law_step"], ["_law_step"],
  (.cons (.ife (.cmp .Eq (.blt "len" (.cons (.var 0) .nil)) (.int 1)) (.cons (.ret (.boolop .And (.cons (.isx (.sub (.var 0) (.int 0)) ["str"]) (.cons (.cmp .In (.sub (.var 0) (.int 0)) (.lst (.cons (.str "keep") (.cons (.str "drop") (.cons (.str "turn") .nil))))) .nil)))) .nil) .nil) (.cons (.ife (.boolop .Or (.cons (.cmp .NotEq (.blt "len" (.cons (.var 0) .nil)) (.int 2)) (.cons (.not (.isx (.sub (.var 0) (.int 0)) ["str"])) (.cons (.cmp .NotIn (.sub (.var 0) (.int 0)) (.lst (.cons (.str "add") (.cons (.str "swap") .nil)))) .nil)))) (.cons (.ret (.bl false)) .nil) .nil) (.cons (.ret (.boolop .And (.cons (.isx (.sub (.var 0) (.int 1)) ["str"]) (.cons (.cmp .Eq (.blt "len" (.cons (.sub (.var 0) (.int 1)) .nil)) (.int 1)) (.cons (.cmp .In (.sub (.var 0) (.int 1)) (.str "abcdefghijklmnopqrstuvwxyz")) .nil))))) .nil))), false⟩
def d__law_row : FD := ⟨["_law_bag_here", "_law_model_here", "_law_word_here", "_law_letters_here"], ["_law_bag_here", "_law_model_here", "_law_word_here", "_law_letters_here", "_law_row_here", "_law_at", "_law_size", "_law_way", "_law_letter"],
  (.cons (.par3 4 5 6 (.lst .nil) (.int 0) (.int 0)) (.cons (.while (.boolop .Or (.cons (.cmp .Lt (.var 5) (.blt "len" (.cons (.var 2) .nil))) (.cons (.boolop .And (.cons (.cmp .Lt (.var 6) (.int 6)) (.cons (.cmp .Eq (.call "_law_take" (.cons (.var 0) (.cons (.int 3) .nil))) (.int 0)) .nil))) .nil))) (.cons (.par 7 8 (.call "_law_take" (.cons (.var 0) (.cons (.int 6) .nil))) (.sub (.var 3) (.call "_law_take" (.cons (.var 0) (.cons (.blt "len" (.cons (.var 3) .nil)) .nil))))) (.cons (.ife (.boolop .And (.cons (.cmp .Lt (.var 6) (.int 6)) (.cons (.boolop .Or (.cons (.cmp .Eq (.var 7) (.int 0)) (.cons (.cmp .Eq (.var 5) (.blt "len" (.cons (.var 2) .nil))) .nil))) (.cons (.cmp .Lt (.bin .Sub (.bin .Add (.var 6) (.blt "len" (.cons (.var 2) .nil))) (.var 5)) (.int 6)) .nil)))) (.cons (.expr (.bm "append" (.var 4) (.cons (.tup (.cons (.str "add") (.cons (.var 8) .nil))) .nil))) (.cons (.asg (.name 6) (.bin .Add (.var 6) (.int 1))) (.cons .cont .nil))) .nil) (.cons (.ife (.cmp .Eq (.var 5) (.blt "len" (.cons (.var 2) .nil))) (.cons .brk .nil) .nil) (.cons (.ife (.boolop .And (.cons (.cmp .Eq (.var 7) (.int 1)) (.cons (.cmp .IsNot (.sub (.var 1) (.int 5)) .non) (.cons (.cmp .Lt (.bin .Add (.var 5) (.int 1)) (.blt "len" (.cons (.var 2) .nil))) (.cons (.cmp .NotEq (.sub (.var 2) (.var 5)) (.sub (.var 2) (.bin .Add (.var 5) (.int 1)))) .nil))))) (.cons (.expr (.bm "append" (.var 4) (.cons (.tup (.cons (.str "turn") .nil)) .nil))) (.cons (.par 5 6 (.bin .Add (.var 5) (.int 2)) (.bin .Add (.var 6) (.int 2))) .nil)) (.cons (.ife (.cmp .Eq (.var 7) (.int 2)) (.cons (.expr (.bm "append" (.var 4) (.cons (.tup (.cons (.str "drop") .nil)) .nil))) (.cons (.asg (.name 5) (.bin .Add (.var 5) (.int 1))) .nil)) (.cons (.expr (.bm "append" (.var 4) (.cons (.ife (.boolop .And (.cons (.cmp .Eq (.var 7) (.int 3)) (.cons (.cmp .NotEq (.var 8) (.sub (.var 2) (.var 5))) .nil))) (.tup (.cons (.str "swap") (.cons (.var 8) .nil))) (.tup (.cons (.str "keep") .nil))) .nil))) (.cons (.par 5 6 (.bin .Add (.var 5) (.int 1)) (.bin .Add (.var 6) (.int 1))) .nil))) .nil)) .nil))))) (.cons (.ret (.var 4)) .nil))), true⟩
def d__law_back : FD := ⟨["_law_word_here", "_law_row_here"], ["_law_word_here", "_law_row_here", "_law_found", "_law_rest", "_law_step", "_law_many", "_law_turned"],
  (.cons (.par 2 3 (.lst .nil) (.var 0)) (.cons (.for (.name 4) (.val (.var 1)) (.cons (.asg (.name 5) (.dg2 (.frd (.cons (.str "add") (.int 0) (.cons (.str "turn") (.int 2) .nil))) (.sub (.var 4) (.int 0)) (.int 1))) (.cons (.asg (.name 6) (.frd (.cons (.str "add") (.tup (.cons (.str "drop") .nil)) (.cons (.str "drop") (.tup (.cons (.str "add") (.cons (.slice (.var 3) .none (.some (.int 1))) .nil))) (.cons (.str "swap") (.tup (.cons (.str "swap") (.cons (.slice (.var 3) .none (.some (.int 1))) .nil))) .nil))))) (.cons (.expr (.bm "append" (.var 2) (.cons (.dg2 (.var 6) (.sub (.var 4) (.int 0)) (.var 4)) .nil))) (.cons (.asg (.name 3) (.slice (.var 3) (.some (.var 5)) .none)) .nil))))) (.cons (.ret (.var 2)) .nil))), true⟩
def d__law_right : FD := ⟨["_law_scheme", "_law_model_here", "_law_word_here", "_law_row_here"], ["_law_scheme", "_law_model_here", "_law_word_here", "_law_row_here", "_law_text", "_law_many", "_law_back_here", "_law_some", "_law_rows", ".0", "_law_step"],
  (.cons (.asg (.tup (.cons (.name 4) (.cons (.name 5) .nil))) (.call "_law_read" (.cons (.var 1) (.cons (.var 2) (.cons (.var 3) .nil))))) (.cons (.ife (.boolop .Or (.cons (.cmp .NotEq (.call "written" (.cons (.var 0) (.cons (.var 2) (.cons (.var 3) .nil)))) (.var 4)) (.cons (.cmp .NotEq (.blt "repr" (.cons (.call "counts_of" (.cons (.var 0) (.cons (.var 2) (.cons (.blt "tuple" (.cons (.var 3) .nil)) .nil)))) .nil)) (.blt "repr" (.cons (.var 5) .nil))) .nil))) (.cons (.ret (.bl false)) .nil) .nil) (.cons (.asg (.name 6) (.call "turned_back" (.cons (.var 0) (.cons (.var 2) (.cons (.var 3) .nil))))) (.cons (.ife (.boolop .Or (.cons (.cmp .NotEq (.blt "repr" (.cons (.var 6) .nil)) (.blt "repr" (.cons (.call "_law_back" (.cons (.var 2) (.cons (.var 3) .nil))) .nil))) (.cons (.cmp .NotEq (.call "turned_back" (.cons (.var 0) (.cons (.var 4) (.cons (.var 6) .nil)))) (.var 3)) .nil))) (.cons (.ret (.bl false)) .nil) .nil) (.cons (.ife (.cmp .NotEq (.call "written" (.cons (.var 0) (.cons (.var 4) (.cons (.var 6) .nil)))) (.var 2)) (.cons (.ret (.bl false)) .nil) .nil) (.cons (.ife (.cmp .NotEq (.call "counts_of" (.cons (.var 0) (.cons (.var 4) (.cons (.var 6) .nil)))) (.sub (.call "_law_read" (.cons (.var 1) (.cons (.var 4) (.cons (.var 6) .nil)))) (.int 1))) (.cons (.ret (.bl false)) .nil) .nil) (.cons (.asg (.name 7) (.call "mirrored" (.cons (.var 0) (.cons (.var 2) (.cons (.var 3) .nil))))) (.cons (.ife (.boolop .Or (.cons (.cmp .NotEq (.blt "repr" (.cons (.var 7) .nil)) (.blt "repr" (.cons (.rev (.var 3)) .nil))) (.cons (.cmp .NotEq (.call "written" (.cons (.var 0) (.cons (.p1 (.sst none none (-1)) (.var 2)) (.cons (.var 7) .nil)))) (.p1 (.sst none none (-1)) (.var 4))) .nil))) (.cons (.ret (.bl false)) .nil) .nil) (.cons (.ife (.cmp .NotEq (.call "counts_of" (.cons (.var 0) (.cons (.p1 (.sst none none (-1)) (.var 2)) (.cons (.var 7) .nil)))) (.var 5)) (.cons (.ret (.bl false)) .nil) .nil) (.cons (.expr (.bm "append" (.var 6) (.cons (.str "late1") .nil))) (.cons (.expr (.bm "append" (.var 7) (.cons (.str "late2") .nil))) (.cons (.for (.name 8) (.val (.lst (.cons (.frz (.lcomp (.frz (.blt "list" (.cons (.var 10) .nil))) (.name 10) (.val (.var 3)) .none [9, 10])) (.cons (.blt "tuple" (.cons (.var 3) .nil)) (.cons (.blt "tuple" (.cons (.lcomp (.frz (.blt "list" (.cons (.var 10) .nil))) (.name 10) (.val (.var 3)) .none [9, 10]) .nil)) .nil))))) (.cons (.ife (.cmp .NotEq (.blt "repr" (.cons (.call "turned_back" (.cons (.var 0) (.cons (.var 2) (.cons (.var 8) .nil)))) .nil)) (.blt "repr" (.cons (.call "_law_back" (.cons (.var 2) (.cons (.var 3) .nil))) .nil))) (.cons (.ret (.bl false)) .nil) .nil) (.cons (.ife (.boolop .Or (.cons (.cmp .NotEq (.blt "repr" (.cons (.call "mirrored" (.cons (.var 0) (.cons (.var 2) (.cons (.var 8) .nil)))) .nil)) (.blt "repr" (.cons (.rev (.var 3)) .nil))) (.cons (.cmp .NotEq (.call "written" (.cons (.var 0) (.cons (.var 2) (.cons (.var 8) .nil)))) (.var 4)) .nil))) (.cons (.ret (.bl false)) .nil) .nil) (.cons (.ife (.cmp .NotEq (.call "counts_of" (.cons (.var 0) (.cons (.var 2) (.cons (.var 8) .nil)))) (.var 5)) (.cons (.ret (.bl false)) .nil) .nil) .nil)))) (.cons (.ret (.bl true)) .nil))))))))))))), true⟩
def d_law : FD := ⟨["_law_script"], ["_law_script", "_law_index", "_law_bag_here", "_law_letters_here", "_law_model_here", "_law_scheme", "_law_second", "_law_other", "_law_lap", "_law_word_here", "_law_row_here", "_law_told"],
  (.cons (.for (.name 1) (.range (.cons (.blt "max" (.cons (.int 2) (.cons (.blt "min" (.cons (.int 6) (.cons (.blt "len" (.cons (.var 0) .nil)) .nil))) .nil))) .nil)) (.cons (.asg (.name 2) (.call "_law_bag" (.cons (.call "_law_cell" (.cons (.var 0) (.cons (.var 1) .nil))) .nil))) (.cons (.asg (.name 3) (.call "_law_letters" (.cons (.var 2) .nil))) (.cons (.asg (.name 4) (.call "_law_model" (.cons (.var 2) (.cons (.var 3) .nil)))) (.cons (.par 5 6 (.call "_law_made" (.cons (.var 4) .nil)) (.call "_law_model" (.cons (.var 2) (.cons (.var 3) .nil)))) (.cons (.asg (.name 7) (.call "_law_made" (.cons (.var 6) .nil))) (.cons (.for (.name 8) (.range (.cons (.int 4) .nil)) (.cons (.asg (.name 9) (.call "_law_word" (.cons (.var 2) (.cons (.var 3) (.cons (.int 6) .nil))))) (.cons (.asg (.name 10) (.call "_law_row" (.cons (.var 2) (.cons (.var 4) (.cons (.var 9) (.cons (.bin .Add (.var 3) (.str "q")) .nil)))))) (.cons (.ife (.not (.call "_law_right" (.cons (.var 5) (.cons (.var 4) (.cons (.var 9) (.cons (.var 10) .nil)))))) (.cons (.ret (.bl false)) .nil) .nil) (.cons (.asg (.name 11) (.call "_law_read" (.cons (.var 6) (.cons (.var 9) (.cons (.var 10) .nil))))) (.cons (.ife (.cmp .NotEq (.call "is_row_rows" (.cons (.var 7) (.cons (.var 9) (.cons (.var 10) .nil)))) (.cmp .IsNot (.var 11) .non)) (.cons (.ret (.bl false)) .nil) .nil) (.cons (.ife (.boolop .And (.cons (.cmp .IsNot (.var 11) .non) (.cons (.cmp .NotEq (.call "counts_of" (.cons (.var 7) (.cons (.var 9) (.cons (.var 10) .nil)))) (.sub (.var 11) (.int 1))) .nil))) (.cons (.ret (.bl false)) .nil) .nil) .nil))))))) .nil))))))) (.cons (.ret (.bl true)) .nil)), false⟩
abbrev fb_Scheme___init___0 : Mss := (.cons (.ife (.oin true (.var 7) (.var 0)) (.cons .nev .nil) .nil) .nil)
abbrev fb_Scheme_checked_groups_0 : Mss := (.cons (.ife (.boolop .Or (.cons (.not (.call "is_row_words" (.cons (.var 4) (.cons (.int 2) .nil)))) (.cons (.not (.call "is_spelled" (.cons (.sub (.var 4) (.int 0)) (.cons (.int 2) (.cons (.glob "MOST_LETTERS") .nil))))) .nil))) (.cons (.raise "InvalidGroup" "value" (.var 4)) .nil) .nil) (.cons (.asg (.name 5) (.bm "join" (.str "") (.cons (.srt (.sub (.var 4) (.int 0))) .nil))) (.cons (.ife (.boolop .Or (.cons (.cmp .Lt (.p1 .lset (.sub (.var 4) (.int 0))) (.blt "len" (.cons (.var 5) .nil))) (.cons (.blt "any" (.cons (.lcomp (.cmp .In (.var 7) (.var 3)) (.name 7) (.val (.var 5)) .none [6, 7]) .nil)) .nil))) (.cons (.raise "InvalidGroup" "value" (.var 4)) .nil) .nil) (.cons (.ife (.oin true (.sub (.var 4) (.int 1)) (.var 0)) (.cons .nev .nil) .nil) (.cons (.asg (.name 3) (.bin .Add (.var 3) (.var 5))) (.cons (.expr (.bm "append" (.var 2) (.cons (.tup (.cons (.var 5) (.cons (.sub (.var 4) (.int 1)) .nil))) .nil))) .nil))))))
abbrev le_Scheme_checked_groups_0 : Me := (.cmp .In (.var 7) (.var 3))
abbrev lt_Scheme_checked_groups_0 : Mt := (.name 7)
abbrev lf_Scheme_checked_groups_0 : Mo := .none
abbrev fb_Scheme_swap_cost_0 : Mss := (.cons (.ife (.boolop .And (.cons (.cmp .In (.var 1) (.var 3)) (.cons (.cmp .In (.var 2) (.var 3)) .nil))) (.cons (.ret (.var 4)) .nil) .nil) .nil)
abbrev wc__wall_0 : Me := (.bl true)
abbrev wb__wall_0 : Mss := (.cons .pass .nil)
abbrev le_is_spelled_0 : Me := (.cmp .In (.var 4) (.glob "LETTERS"))
abbrev lt_is_spelled_0 : Mt := (.name 4)
abbrev lf_is_spelled_0 : Mo := .none
abbrev fb_checked_costs_0 : Mss := (.cons (.ife (.not (.call "is_name" (.cons (.var 2) .nil))) (.cons (.raise "InvalidName" "value" (.var 2)) .nil) .nil) (.cons (.ife (.cmp .In (.var 2) (.var 1)) (.cons (.raise "Duplicate" "label" (.var 2)) .nil) .nil) (.cons (.expr (.bm "append" (.var 1) (.cons (.var 2) .nil))) .nil)))
abbrev fb_read_row_0 : Mss := (.cons (.asg (.name 6) (.call "step_text" (.cons (.var 0) (.cons (.var 1) (.cons (.var 4) (.cons (.var 5) .nil)))))) (.cons (.ife (.cmp .Is (.var 6) .non) (.cons (.ret .non) .nil) .nil) (.cons (.asg (.name 3) (.bin .Add (.var 3) (.sub (.var 6) (.int 0)))) (.cons (.asg (.name 4) (.bin .Add (.var 4) (.sub (.var 6) (.int 1)))) .nil))))
abbrev fb_met_0 : Mss := (.cons (.asg (.name 5) (.dg2 (.frd (.cons (.glob "ADD") (.int 0) (.cons (.glob "TURN") (.int 2) .nil))) (.sub (.var 4) (.int 0)) (.int 1))) (.cons (.expr (.bm "append" (.var 2) (.cons (.tup (.cons (.blt "tuple" (.cons (.var 4) .nil)) (.cons (.slice (.var 0) (.some (.var 3)) (.some (.bin .Add (.var 3) (.var 5)))) .nil))) .nil))) (.cons (.asg (.name 3) (.bin .Add (.var 3) (.var 5))) .nil)))
abbrev le_counted_0 : Me := (.bin .Add (.var 7) (.int1 (.cmp .Eq (.var 6) (.var 4))))
abbrev lt_counted_0 : Mt := (.tup (.cons (.name 6) (.cons (.name 7) .nil)))
abbrev lf_counted_0 : Mo := .none
abbrev le_counts_of_0 : Me := (.int 0)
abbrev lt_counts_of_0 : Mt := (.name 7)
abbrev lf_counts_of_0 : Mo := .none
abbrev fb_counts_of_0 : Mss := (.cons (.asg (.name 3) (.call "counted" (.cons (.var 0) (.cons (.var 3) (.cons (.var 4) (.cons (.var 5) .nil)))))) .nil)
abbrev fb_turned_back_0 : Mss := (.cons (.ife (.cmp .Eq (.sub (.var 4) (.int 0)) (.glob "ADD")) (.cons (.expr (.bm "append" (.var 3) (.cons (.tup (.cons (.glob "DROP") .nil)) .nil))) .nil) (.cons (.ife (.cmp .Eq (.sub (.var 4) (.int 0)) (.glob "DROP")) (.cons (.expr (.bm "append" (.var 3) (.cons (.tup (.cons (.glob "ADD") (.cons (.var 5) .nil))) .nil))) .nil) (.cons (.expr (.bm "append" (.var 3) (.cons (.ife (.cmp .Eq (.sub (.var 4) (.int 0)) (.glob "SWAP")) (.tup (.cons (.glob "SWAP") (.cons (.var 5) .nil))) (.var 4)) .nil))) .nil)) .nil)) .nil)
abbrev le_mirrored_0 : Me := (.blt "tuple" (.cons (.var 4) .nil))
abbrev lt_mirrored_0 : Mt := (.name 4)
abbrev lf_mirrored_0 : Mo := .none
abbrev le__law_word_0 : Me := (.sub (.var 1) (.call "_law_take" (.cons (.var 0) (.cons (.blt "len" (.cons (.var 1) .nil)) .nil))))
abbrev lt__law_word_0 : Mt := (.name 4)
abbrev lf__law_word_0 : Mo := .none
abbrev le__law_model_0 : Me := (.sub (.var 3) (.call "_law_take" (.cons (.var 0) (.cons (.blt "len" (.cons (.var 3) .nil)) .nil))))
abbrev lt__law_model_0 : Mt := (.name 8)
abbrev lf__law_model_0 : Mo := .none
abbrev fb__law_swap_name_0 : Mss := (.cons (.ife (.boolop .And (.cons (.cmp .In (.var 1) (.sub (.var 3) (.int 0))) (.cons (.cmp .In (.var 2) (.sub (.var 3) (.int 0))) .nil))) (.cons (.ret (.sub (.var 3) (.int 1))) .nil) .nil) .nil)
abbrev le__law_one_0 : Me := (.int1 (.cmp .Eq (.var 3) (.var 1)))
abbrev lt__law_one_0 : Mt := (.name 3)
abbrev lf__law_one_0 : Mo := .none
abbrev le__law_plus_0 : Me := (.bin .Add (.var 3) (.var 4))
abbrev lt__law_plus_0 : Mt := (.tup (.cons (.name 3) (.cons (.name 4) .nil)))
abbrev lf__law_plus_0 : Mo := .none
abbrev fb__law_read_0 : Mss := (.cons (.ife (.boolop .Or (.cons (.not (.isx (.var 6) ["list", "tuple"])) (.cons (.not (.call "_law_is_step" (.cons (.frz (.blt "list" (.cons (.var 6) .nil))) .nil))) .nil))) (.cons (.ret .non) .nil) .nil) (.cons (.ife (.cmp .Eq (.sub (.var 6) (.int 0)) (.str "add")) (.cons (.par 3 5 (.bin .Add (.var 3) (.sub (.var 6) (.int 1))) (.call "_law_plus" (.cons (.var 5) (.cons (.call "_law_one" (.cons (.var 0) (.cons (.sub (.var 0) (.int 1)) .nil))) .nil)))) .nil) (.cons (.ife (.cmp .Eq (.sub (.var 6) (.int 0)) (.str "turn")) (.cons (.ife (.boolop .Or (.cons (.cmp .Is (.sub (.var 0) (.int 5)) .non) (.cons (.cmp .Lt (.blt "len" (.cons (.var 4) .nil)) (.int 2)) (.cons (.cmp .Eq (.sub (.var 4) (.int 0)) (.sub (.var 4) (.int 1))) .nil)))) (.cons (.ret .non) .nil) .nil) (.cons (.par 3 5 (.bin .Add (.bin .Add (.var 3) (.sub (.var 4) (.int 1))) (.sub (.var 4) (.int 0))) (.call "_law_plus" (.cons (.var 5) (.cons (.call "_law_one" (.cons (.var 0) (.cons (.sub (.var 0) (.int 5)) .nil))) .nil)))) (.cons (.asg (.name 4) (.slice (.var 4) (.some (.int 2)) .none)) .nil))) (.cons (.ife (.boolop .Or (.cons (.cmp .Eq (.var 4) (.str "")) (.cons (.boolop .And (.cons (.cmp .Eq (.sub (.var 6) (.int 0)) (.str "swap")) (.cons (.cmp .Eq (.sub (.var 6) (.int 1)) (.sub (.var 4) (.int 0))) .nil))) .nil))) (.cons (.ret .non) .nil) (.cons (.ife (.cmp .Eq (.sub (.var 6) (.int 0)) (.str "drop")) (.cons (.asg (.name 5) (.call "_law_plus" (.cons (.var 5) (.cons (.call "_law_one" (.cons (.var 0) (.cons (.sub (.var 0) (.int 2)) .nil))) .nil)))) .nil) .nil) (.cons (.ife (.cmp .Eq (.sub (.var 6) (.int 0)) (.str "swap")) (.cons (.asg (.name 5) (.call "_law_plus" (.cons (.var 5) (.cons (.call "_law_one" (.cons (.var 0) (.cons (.call "_law_swap_name" (.cons (.var 0) (.cons (.sub (.var 4) (.int 0)) (.cons (.sub (.var 6) (.int 1)) .nil)))) .nil))) .nil)))) .nil) .nil) (.cons (.par 3 4 (.bin .Add (.var 3) (.dg2 (.frd (.cons (.str "drop") (.str "") (.cons (.str "keep") (.sub (.var 4) (.int 0)) .nil))) (.sub (.var 6) (.int 0)) (.sub (.var 6) (.neg (.int 1))))) (.slice (.var 4) (.some (.int 1)) .none)) .nil)))) .nil)) .nil)) .nil))
abbrev wc__law_row_0 : Me := (.boolop .Or (.cons (.cmp .Lt (.var 5) (.blt "len" (.cons (.var 2) .nil))) (.cons (.boolop .And (.cons (.cmp .Lt (.var 6) (.int 6)) (.cons (.cmp .Eq (.call "_law_take" (.cons (.var 0) (.cons (.int 3) .nil))) (.int 0)) .nil))) .nil)))
abbrev wb__law_row_0 : Mss := (.cons (.par 7 8 (.call "_law_take" (.cons (.var 0) (.cons (.int 6) .nil))) (.sub (.var 3) (.call "_law_take" (.cons (.var 0) (.cons (.blt "len" (.cons (.var 3) .nil)) .nil))))) (.cons (.ife (.boolop .And (.cons (.cmp .Lt (.var 6) (.int 6)) (.cons (.boolop .Or (.cons (.cmp .Eq (.var 7) (.int 0)) (.cons (.cmp .Eq (.var 5) (.blt "len" (.cons (.var 2) .nil))) .nil))) (.cons (.cmp .Lt (.bin .Sub (.bin .Add (.var 6) (.blt "len" (.cons (.var 2) .nil))) (.var 5)) (.int 6)) .nil)))) (.cons (.expr (.bm "append" (.var 4) (.cons (.tup (.cons (.str "add") (.cons (.var 8) .nil))) .nil))) (.cons (.asg (.name 6) (.bin .Add (.var 6) (.int 1))) (.cons .cont .nil))) .nil) (.cons (.ife (.cmp .Eq (.var 5) (.blt "len" (.cons (.var 2) .nil))) (.cons .brk .nil) .nil) (.cons (.ife (.boolop .And (.cons (.cmp .Eq (.var 7) (.int 1)) (.cons (.cmp .IsNot (.sub (.var 1) (.int 5)) .non) (.cons (.cmp .Lt (.bin .Add (.var 5) (.int 1)) (.blt "len" (.cons (.var 2) .nil))) (.cons (.cmp .NotEq (.sub (.var 2) (.var 5)) (.sub (.var 2) (.bin .Add (.var 5) (.int 1)))) .nil))))) (.cons (.expr (.bm "append" (.var 4) (.cons (.tup (.cons (.str "turn") .nil)) .nil))) (.cons (.par 5 6 (.bin .Add (.var 5) (.int 2)) (.bin .Add (.var 6) (.int 2))) .nil)) (.cons (.ife (.cmp .Eq (.var 7) (.int 2)) (.cons (.expr (.bm "append" (.var 4) (.cons (.tup (.cons (.str "drop") .nil)) .nil))) (.cons (.asg (.name 5) (.bin .Add (.var 5) (.int 1))) .nil)) (.cons (.expr (.bm "append" (.var 4) (.cons (.ife (.boolop .And (.cons (.cmp .Eq (.var 7) (.int 3)) (.cons (.cmp .NotEq (.var 8) (.sub (.var 2) (.var 5))) .nil))) (.tup (.cons (.str "swap") (.cons (.var 8) .nil))) (.tup (.cons (.str "keep") .nil))) .nil))) (.cons (.par 5 6 (.bin .Add (.var 5) (.int 1)) (.bin .Add (.var 6) (.int 1))) .nil))) .nil)) .nil))))
abbrev fb__law_back_0 : Mss := (.cons (.asg (.name 5) (.dg2 (.frd (.cons (.str "add") (.int 0) (.cons (.str "turn") (.int 2) .nil))) (.sub (.var 4) (.int 0)) (.int 1))) (.cons (.asg (.name 6) (.frd (.cons (.str "add") (.tup (.cons (.str "drop") .nil)) (.cons (.str "drop") (.tup (.cons (.str "add") (.cons (.slice (.var 3) .none (.some (.int 1))) .nil))) (.cons (.str "swap") (.tup (.cons (.str "swap") (.cons (.slice (.var 3) .none (.some (.int 1))) .nil))) .nil))))) (.cons (.expr (.bm "append" (.var 2) (.cons (.dg2 (.var 6) (.sub (.var 4) (.int 0)) (.var 4)) .nil))) (.cons (.asg (.name 3) (.slice (.var 3) (.some (.var 5)) .none)) .nil))))
abbrev fb__law_right_0 : Mss := (.cons (.ife (.cmp .NotEq (.blt "repr" (.cons (.call "turned_back" (.cons (.var 0) (.cons (.var 2) (.cons (.var 8) .nil)))) .nil)) (.blt "repr" (.cons (.call "_law_back" (.cons (.var 2) (.cons (.var 3) .nil))) .nil))) (.cons (.ret (.bl false)) .nil) .nil) (.cons (.ife (.boolop .Or (.cons (.cmp .NotEq (.blt "repr" (.cons (.call "mirrored" (.cons (.var 0) (.cons (.var 2) (.cons (.var 8) .nil)))) .nil)) (.blt "repr" (.cons (.rev (.var 3)) .nil))) (.cons (.cmp .NotEq (.call "written" (.cons (.var 0) (.cons (.var 2) (.cons (.var 8) .nil)))) (.var 4)) .nil))) (.cons (.ret (.bl false)) .nil) .nil) (.cons (.ife (.cmp .NotEq (.call "counts_of" (.cons (.var 0) (.cons (.var 2) (.cons (.var 8) .nil)))) (.var 5)) (.cons (.ret (.bl false)) .nil) .nil) .nil)))
abbrev le__law_right_0 : Me := (.frz (.blt "list" (.cons (.var 10) .nil)))
abbrev lt__law_right_0 : Mt := (.name 10)
abbrev lf__law_right_0 : Mo := .none
abbrev le__law_right_1 : Me := (.frz (.blt "list" (.cons (.var 10) .nil)))
abbrev lt__law_right_1 : Mt := (.name 10)
abbrev lf__law_right_1 : Mo := .none
abbrev fb_law_0 : Mss := (.cons (.asg (.name 2) (.call "_law_bag" (.cons (.call "_law_cell" (.cons (.var 0) (.cons (.var 1) .nil))) .nil))) (.cons (.asg (.name 3) (.call "_law_letters" (.cons (.var 2) .nil))) (.cons (.asg (.name 4) (.call "_law_model" (.cons (.var 2) (.cons (.var 3) .nil)))) (.cons (.par 5 6 (.call "_law_made" (.cons (.var 4) .nil)) (.call "_law_model" (.cons (.var 2) (.cons (.var 3) .nil)))) (.cons (.asg (.name 7) (.call "_law_made" (.cons (.var 6) .nil))) (.cons (.for (.name 8) (.range (.cons (.int 4) .nil)) (.cons (.asg (.name 9) (.call "_law_word" (.cons (.var 2) (.cons (.var 3) (.cons (.int 6) .nil))))) (.cons (.asg (.name 10) (.call "_law_row" (.cons (.var 2) (.cons (.var 4) (.cons (.var 9) (.cons (.bin .Add (.var 3) (.str "q")) .nil)))))) (.cons (.ife (.not (.call "_law_right" (.cons (.var 5) (.cons (.var 4) (.cons (.var 9) (.cons (.var 10) .nil)))))) (.cons (.ret (.bl false)) .nil) .nil) (.cons (.asg (.name 11) (.call "_law_read" (.cons (.var 6) (.cons (.var 9) (.cons (.var 10) .nil))))) (.cons (.ife (.cmp .NotEq (.call "is_row_rows" (.cons (.var 7) (.cons (.var 9) (.cons (.var 10) .nil)))) (.cmp .IsNot (.var 11) .non)) (.cons (.ret (.bl false)) .nil) .nil) (.cons (.ife (.boolop .And (.cons (.cmp .IsNot (.var 11) .non) (.cons (.cmp .NotEq (.call "counts_of" (.cons (.var 7) (.cons (.var 9) (.cons (.var 10) .nil)))) (.sub (.var 11) (.int 1))) .nil))) (.cons (.ret (.bl false)) .nil) .nil) .nil))))))) .nil))))))
abbrev fb_law_1 : Mss := (.cons (.asg (.name 9) (.call "_law_word" (.cons (.var 2) (.cons (.var 3) (.cons (.int 6) .nil))))) (.cons (.asg (.name 10) (.call "_law_row" (.cons (.var 2) (.cons (.var 4) (.cons (.var 9) (.cons (.bin .Add (.var 3) (.str "q")) .nil)))))) (.cons (.ife (.not (.call "_law_right" (.cons (.var 5) (.cons (.var 4) (.cons (.var 9) (.cons (.var 10) .nil)))))) (.cons (.ret (.bl false)) .nil) .nil) (.cons (.asg (.name 11) (.call "_law_read" (.cons (.var 6) (.cons (.var 9) (.cons (.var 10) .nil))))) (.cons (.ife (.cmp .NotEq (.call "is_row_rows" (.cons (.var 7) (.cons (.var 9) (.cons (.var 10) .nil)))) (.cmp .IsNot (.var 11) .non)) (.cons (.ret (.bl false)) .nil) .nil) (.cons (.ife (.boolop .And (.cons (.cmp .IsNot (.var 11) .non) (.cons (.cmp .NotEq (.call "counts_of" (.cons (.var 7) (.cons (.var 9) (.cons (.var 10) .nil)))) (.sub (.var 11) (.int 1))) .nil))) (.cons (.ret (.bl false)) .nil) .nil) .nil))))))
def D : List (Str × FD) := [(("Scheme.__init__" : Str), d_Scheme___init__), (("Scheme.checked_groups" : Str), d_Scheme_checked_groups), (("Scheme.costs" : Str), d_Scheme_costs), (("Scheme.cost_to_add" : Str), d_Scheme_cost_to_add), (("Scheme.cost_to_drop" : Str), d_Scheme_cost_to_drop), (("Scheme.cost_to_turn" : Str), d_Scheme_cost_to_turn), (("Scheme.__contains__" : Str), d_Scheme___contains__), (("Scheme.swap_cost" : Str), d_Scheme_swap_cost), (("Scheme.step_cost" : Str), d_Scheme_step_cost), (("_wall" : Str), d__wall), (("is_list" : Str), d_is_list), (("is_row_words" : Str), d_is_row_words), (("is_spelled" : Str), d_is_spelled), (("is_word" : Str), d_is_word), (("is_name" : Str), d_is_name), (("is_letter" : Str), d_is_letter), (("checked_costs" : Str), d_checked_costs), (("is_step" : Str), d_is_step), (("need_scheme" : Str), d_need_scheme), (("need_word" : Str), d_need_word), (("step_text" : Str), d_step_text), (("read_row" : Str), d_read_row), (("is_row_rows" : Str), d_is_row_rows), (("need_row" : Str), d_need_row), (("written" : Str), d_written), (("met" : Str), d_met), (("counted" : Str), d_counted), (("counts_of" : Str), d_counts_of), (("turned_back" : Str), d_turned_back), (("mirrored" : Str), d_mirrored), (("_law_cell" : Str), d__law_cell), (("_law_bag" : Str), d__law_bag), (("_law_take" : Str), d__law_take), (("_law_word" : Str), d__law_word), (("_law_letters" : Str), d__law_letters), (("_law_model" : Str), d__law_model), (("_law_made" : Str), d__law_made), (("_law_swap_name" : Str), d__law_swap_name), (("_law_one" : Str), d__law_one), (("_law_plus" : Str), d__law_plus), (("_law_read" : Str), d__law_read), (("_law_is_step" : Str), d__law_is_step), (("_law_row" : Str), d__law_row), (("_law_back" : Str), d__law_back), (("_law_right" : Str), d__law_right), (("law" : Str), d_law)]
def fs : List Str := [("_wall" : Str), ("is_list" : Str), ("is_row_words" : Str), ("is_spelled" : Str), ("is_word" : Str), ("is_name" : Str), ("is_letter" : Str), ("checked_costs" : Str), ("is_step" : Str), ("need_scheme" : Str), ("need_word" : Str), ("step_text" : Str), ("read_row" : Str), ("is_row_rows" : Str), ("need_row" : Str), ("written" : Str), ("met" : Str), ("counted" : Str), ("counts_of" : Str), ("turned_back" : Str), ("mirrored" : Str), ("_law_cell" : Str), ("_law_bag" : Str), ("_law_take" : Str), ("_law_word" : Str), ("_law_letters" : Str), ("_law_model" : Str), ("_law_made" : Str), ("_law_swap_name" : Str), ("_law_one" : Str), ("_law_plus" : Str), ("_law_read" : Str), ("_law_is_step" : Str), ("_law_row" : Str), ("_law_back" : Str), ("_law_right" : Str), ("law" : Str)]
def exs : List (Str × Str) := [("InvalidPart", "value"), ("InvalidWord", "value"), ("InvalidName", "value"), ("InvalidLetter", "value"), ("InvalidGroup", "value"), ("Duplicate", "label"), ("NotScheme", "value"), ("InvalidStep", "value"), ("InvalidEdits", "value")]
def cls : List Str := ["ChoiceError", "InvalidPart", "InvalidWord", "InvalidName", "InvalidLetter", "InvalidGroup", "Duplicate", "NotScheme", "InvalidStep", "InvalidEdits", "Scheme"]
def isT : List ((Str × Str) × Bool) := []
def tx : Tx := ⟨fs, exs, cls⟩
theorem c_Scheme___init__ : chkD tx (clm 34 0) d_Scheme___init__ = true := by decide +kernel
theorem c_Scheme_checked_groups : chkD tx (clm 34 1) d_Scheme_checked_groups = true := by decide +kernel
theorem c_Scheme_costs : chkD tx (clm 34 2) d_Scheme_costs = true := by decide +kernel
theorem c_Scheme_cost_to_add : chkD tx (clm 34 3) d_Scheme_cost_to_add = true := by decide +kernel
theorem c_Scheme_cost_to_drop : chkD tx (clm 34 4) d_Scheme_cost_to_drop = true := by decide +kernel
theorem c_Scheme_cost_to_turn : chkD tx (clm 34 7) d_Scheme_cost_to_turn = true := by decide +kernel
theorem c_Scheme___contains__ : chkD tx (clm 34 11) d_Scheme___contains__ = true := by decide +kernel
theorem c_Scheme_swap_cost : chkD tx (clm 34 13) d_Scheme_swap_cost = true := by decide +kernel
theorem c_Scheme_step_cost : chkD tx (clm 34 14) d_Scheme_step_cost = true := by decide +kernel
theorem c__wall : chkD tx (top 0) d__wall = true := by decide +kernel
theorem c_is_list : chkD tx (top 18) d_is_list = true := by decide +kernel
theorem c_is_row_words : chkD tx (top 19) d_is_row_words = true := by decide +kernel
theorem c_is_spelled : chkD tx (top 21) d_is_spelled = true := by decide +kernel
theorem c_is_word : chkD tx (top 22) d_is_word = true := by decide +kernel
theorem c_is_name : chkD tx (top 23) d_is_name = true := by decide +kernel
theorem c_is_letter : chkD tx (top 24) d_is_letter = true := by decide +kernel
theorem c_checked_costs : chkD tx (top 33) d_checked_costs = true := by decide +kernel
theorem c_is_step : chkD tx (top 35) d_is_step = true := by decide +kernel
theorem c_need_scheme : chkD tx (top 36) d_need_scheme = true := by decide +kernel
theorem c_need_word : chkD tx (top 38) d_need_word = true := by decide +kernel
theorem c_step_text : chkD tx (top 39) d_step_text = true := by decide +kernel
theorem c_read_row : chkD tx (top 40) d_read_row = true := by decide +kernel
theorem c_is_row_rows : chkD tx (top 41) d_is_row_rows = true := by decide +kernel
theorem c_need_row : chkD tx (top 43) d_need_row = true := by decide +kernel
theorem c_written : chkD tx (top 44) d_written = true := by decide +kernel
theorem c_met : chkD tx (top 45) d_met = true := by decide +kernel
theorem c_counted : chkD tx (top 46) d_counted = true := by decide +kernel
theorem c_counts_of : chkD tx (top 47) d_counts_of = true := by decide +kernel
theorem c_turned_back : chkD tx (top 48) d_turned_back = true := by decide +kernel
theorem c_mirrored : chkD tx (top 49) d_mirrored = true := by decide +kernel
theorem c__law_cell : chkD tx (top 51) d__law_cell = true := by decide +kernel
theorem c__law_bag : chkD tx (top 52) d__law_bag = true := by decide +kernel
theorem c__law_take : chkD tx (top 53) d__law_take = true := by decide +kernel
theorem c__law_word : chkD tx (top 54) d__law_word = true := by decide +kernel
theorem c__law_letters : chkD tx (top 55) d__law_letters = true := by decide +kernel
theorem c__law_model : chkD tx (top 56) d__law_model = true := by decide +kernel
theorem c__law_made : chkD tx (top 57) d__law_made = true := by decide +kernel
theorem c__law_swap_name : chkD tx (top 58) d__law_swap_name = true := by decide +kernel
theorem c__law_one : chkD tx (top 59) d__law_one = true := by decide +kernel
theorem c__law_plus : chkD tx (top 60) d__law_plus = true := by decide +kernel
theorem c__law_read : chkD tx (top 61) d__law_read = true := by decide +kernel
theorem c__law_is_step : chkD tx (top 62) d__law_is_step = true := by decide +kernel
theorem c__law_row : chkD tx (top 63) d__law_row = true := by decide +kernel
theorem c__law_back : chkD tx (top 64) d__law_back = true := by decide +kernel
theorem c__law_right : chkD tx (top 65) d__law_right = true := by decide +kernel
theorem c_law : chkD tx (top 66) d_law = true := by decide +kernel
theorem i_InvalidPart : initB (clm 4 0) "ChoiceError" "value" "value" = true := by decide +kernel
theorem i_InvalidWord : initB (clm 5 0) "ChoiceError" "value" "value" = true := by decide +kernel
theorem i_InvalidName : initB (clm 6 0) "ChoiceError" "value" "value" = true := by decide +kernel
theorem i_InvalidLetter : initB (clm 7 0) "ChoiceError" "value" "value" = true := by decide +kernel
theorem i_InvalidGroup : initB (clm 8 0) "ChoiceError" "value" "value" = true := by decide +kernel
theorem i_Duplicate : initB (clm 9 0) "ChoiceError" "label" "label" = true := by decide +kernel
theorem i_NotScheme : initB (clm 10 0) "ChoiceError" "value" "value" = true := by decide +kernel
theorem i_InvalidStep : initB (clm 11 0) "ChoiceError" "value" "value" = true := by decide +kernel
theorem i_InvalidEdits : initB (clm 12 0) "ChoiceError" "value" "value" = true := by decide +kernel
def gl : List (Str × W) := [("ADD", .str "add"), ("DROP", .str "drop"), ("KEEP", .str "keep"), ("LETTERS", .str "abcdefghijklmnopqrstuvwxyz"), ("LONGEST_NAME", .int 8), ("LONGEST_WORD", .int 6), ("MOST_COSTS", .int 4), ("MOST_LETTERS", .int 26), ("SWAP", .str "swap"), ("TURN", .str "turn")]
def kx : Kx := { frm := [((("Scheme.cost_to_add" : Str), 1, ([] : List Str)), ([Ar.at 0] : List Ar)), ((("Scheme.cost_to_drop" : Str), 1, ([] : List Str)), ([Ar.at 0] : List Ar)), ((("Scheme.cost_to_turn" : Str), 1, ([] : List Str)), ([Ar.at 0] : List Ar)), ((("Scheme.costs" : Str), 1, ([] : List Str)), ([Ar.at 0] : List Ar)), ((("Scheme.__contains__" : Str), 2, ([] : List Str)), ([Ar.at 0, Ar.at 1] : List Ar)), ((("Scheme.checked_groups" : Str), 2, ([] : List Str)), ([Ar.at 0, Ar.at 1] : List Ar)), ((("Scheme.step_cost" : Str), 3, ([] : List Str)), ([Ar.at 0, Ar.at 1, Ar.at 2] : List Ar)), ((("Scheme.swap_cost" : Str), 3, ([] : List Str)), ([Ar.at 0, Ar.at 1, Ar.at 2] : List Ar)), ((("Scheme.__init__" : Str), 2, (["add", "drop", "swap", "groups", "turn"] : List Str)), ([Ar.at 0, Ar.at 1, Ar.at 2, Ar.at 3, Ar.at 4, Ar.at 5, Ar.at 6] : List Ar))], kn := [], att := [("Scheme", "own_costs"), ("Scheme", "own_edits"), ("Scheme", "own_groups"), ("Scheme", "own_known"), ("Scheme", "own_turn")], met := [(("Scheme", "__contains__"), ("Scheme.__contains__" : Str)), (("Scheme", "checked_groups"), ("Scheme.checked_groups" : Str)), (("Scheme", "step_cost"), ("Scheme.step_cost" : Str)), (("Scheme", "swap_cost"), ("Scheme.swap_cost" : Str))], prp := [(("Scheme", "cost_to_add"), ("Scheme.cost_to_add" : Str)), (("Scheme", "cost_to_drop"), ("Scheme.cost_to_drop" : Str)), (("Scheme", "cost_to_turn"), ("Scheme.cost_to_turn" : Str)), (("Scheme", "costs"), ("Scheme.costs" : Str))], sub := [(("Scheme", "Scheme"), true)], isn := ["Scheme"], isk := ["Scheme"], inn := [("Scheme", "Scheme.__init__")] }
noncomputable def C (k : Nat) : Cc := mkC D (fun x => gl.lookup x) (fun x y => isT.lookup (x, y)) exs kx (10 ^ 60) k
theorem call_Scheme___init__ (k : Nat) (ws : List W) (h : List O) : (C (k + 1)).cn.call "Scheme.__init__" ws h = runF (C k) d_Scheme___init__ ws h := by rfl
theorem ini_Scheme___init__ (k : Nat) (ws : List W) (h : List O) : (C (k + 2)).cn.ini "Scheme.__init__" ws h = runF (C k) d_Scheme___init__ ws h := by rfl
theorem call_Scheme_checked_groups (k : Nat) (ws : List W) (h : List O) : (C (k + 1)).cn.call "Scheme.checked_groups" ws h = runF (C k) d_Scheme_checked_groups ws h := by rfl
theorem ini_Scheme_checked_groups (k : Nat) (ws : List W) (h : List O) : (C (k + 2)).cn.ini "Scheme.checked_groups" ws h = runF (C k) d_Scheme_checked_groups ws h := by rfl
theorem call_Scheme_costs (k : Nat) (ws : List W) (h : List O) : (C (k + 1)).cn.call "Scheme.costs" ws h = runF (C k) d_Scheme_costs ws h := by rfl
theorem ini_Scheme_costs (k : Nat) (ws : List W) (h : List O) : (C (k + 2)).cn.ini "Scheme.costs" ws h = runF (C k) d_Scheme_costs ws h := by rfl
theorem call_Scheme_cost_to_add (k : Nat) (ws : List W) (h : List O) : (C (k + 1)).cn.call "Scheme.cost_to_add" ws h = runF (C k) d_Scheme_cost_to_add ws h := by rfl
theorem ini_Scheme_cost_to_add (k : Nat) (ws : List W) (h : List O) : (C (k + 2)).cn.ini "Scheme.cost_to_add" ws h = runF (C k) d_Scheme_cost_to_add ws h := by rfl
theorem call_Scheme_cost_to_drop (k : Nat) (ws : List W) (h : List O) : (C (k + 1)).cn.call "Scheme.cost_to_drop" ws h = runF (C k) d_Scheme_cost_to_drop ws h := by rfl
theorem ini_Scheme_cost_to_drop (k : Nat) (ws : List W) (h : List O) : (C (k + 2)).cn.ini "Scheme.cost_to_drop" ws h = runF (C k) d_Scheme_cost_to_drop ws h := by rfl
theorem call_Scheme_cost_to_turn (k : Nat) (ws : List W) (h : List O) : (C (k + 1)).cn.call "Scheme.cost_to_turn" ws h = runF (C k) d_Scheme_cost_to_turn ws h := by rfl
theorem ini_Scheme_cost_to_turn (k : Nat) (ws : List W) (h : List O) : (C (k + 2)).cn.ini "Scheme.cost_to_turn" ws h = runF (C k) d_Scheme_cost_to_turn ws h := by rfl
theorem call_Scheme___contains__ (k : Nat) (ws : List W) (h : List O) : (C (k + 1)).cn.call "Scheme.__contains__" ws h = runF (C k) d_Scheme___contains__ ws h := by rfl
theorem ini_Scheme___contains__ (k : Nat) (ws : List W) (h : List O) : (C (k + 2)).cn.ini "Scheme.__contains__" ws h = runF (C k) d_Scheme___contains__ ws h := by rfl
theorem call_Scheme_swap_cost (k : Nat) (ws : List W) (h : List O) : (C (k + 1)).cn.call "Scheme.swap_cost" ws h = runF (C k) d_Scheme_swap_cost ws h := by rfl
theorem ini_Scheme_swap_cost (k : Nat) (ws : List W) (h : List O) : (C (k + 2)).cn.ini "Scheme.swap_cost" ws h = runF (C k) d_Scheme_swap_cost ws h := by rfl
theorem call_Scheme_step_cost (k : Nat) (ws : List W) (h : List O) : (C (k + 1)).cn.call "Scheme.step_cost" ws h = runF (C k) d_Scheme_step_cost ws h := by rfl
theorem ini_Scheme_step_cost (k : Nat) (ws : List W) (h : List O) : (C (k + 2)).cn.ini "Scheme.step_cost" ws h = runF (C k) d_Scheme_step_cost ws h := by rfl
theorem call__wall (k : Nat) (ws : List W) (h : List O) : (C (k + 1)).cn.call "_wall" ws h = runF (C k) d__wall ws h := by rfl
theorem call_is_list (k : Nat) (ws : List W) (h : List O) : (C (k + 1)).cn.call "is_list" ws h = runF (C k) d_is_list ws h := by rfl
theorem call_is_row_words (k : Nat) (ws : List W) (h : List O) : (C (k + 1)).cn.call "is_row_words" ws h = runF (C k) d_is_row_words ws h := by rfl
theorem call_is_spelled (k : Nat) (ws : List W) (h : List O) : (C (k + 1)).cn.call "is_spelled" ws h = runF (C k) d_is_spelled ws h := by rfl
theorem call_is_word (k : Nat) (ws : List W) (h : List O) : (C (k + 1)).cn.call "is_word" ws h = runF (C k) d_is_word ws h := by rfl
theorem call_is_name (k : Nat) (ws : List W) (h : List O) : (C (k + 1)).cn.call "is_name" ws h = runF (C k) d_is_name ws h := by rfl
theorem call_is_letter (k : Nat) (ws : List W) (h : List O) : (C (k + 1)).cn.call "is_letter" ws h = runF (C k) d_is_letter ws h := by rfl
theorem call_checked_costs (k : Nat) (ws : List W) (h : List O) : (C (k + 1)).cn.call "checked_costs" ws h = runF (C k) d_checked_costs ws h := by rfl
theorem call_is_step (k : Nat) (ws : List W) (h : List O) : (C (k + 1)).cn.call "is_step" ws h = runF (C k) d_is_step ws h := by rfl
theorem call_need_scheme (k : Nat) (ws : List W) (h : List O) : (C (k + 1)).cn.call "need_scheme" ws h = runF (C k) d_need_scheme ws h := by rfl
theorem call_need_word (k : Nat) (ws : List W) (h : List O) : (C (k + 1)).cn.call "need_word" ws h = runF (C k) d_need_word ws h := by rfl
theorem call_step_text (k : Nat) (ws : List W) (h : List O) : (C (k + 1)).cn.call "step_text" ws h = runF (C k) d_step_text ws h := by rfl
theorem call_read_row (k : Nat) (ws : List W) (h : List O) : (C (k + 1)).cn.call "read_row" ws h = runF (C k) d_read_row ws h := by rfl
theorem call_is_row_rows (k : Nat) (ws : List W) (h : List O) : (C (k + 1)).cn.call "is_row_rows" ws h = runF (C k) d_is_row_rows ws h := by rfl
theorem call_need_row (k : Nat) (ws : List W) (h : List O) : (C (k + 1)).cn.call "need_row" ws h = runF (C k) d_need_row ws h := by rfl
theorem call_written (k : Nat) (ws : List W) (h : List O) : (C (k + 1)).cn.call "written" ws h = runF (C k) d_written ws h := by rfl
theorem call_met (k : Nat) (ws : List W) (h : List O) : (C (k + 1)).cn.call "met" ws h = runF (C k) d_met ws h := by rfl
theorem call_counted (k : Nat) (ws : List W) (h : List O) : (C (k + 1)).cn.call "counted" ws h = runF (C k) d_counted ws h := by rfl
theorem call_counts_of (k : Nat) (ws : List W) (h : List O) : (C (k + 1)).cn.call "counts_of" ws h = runF (C k) d_counts_of ws h := by rfl
theorem call_turned_back (k : Nat) (ws : List W) (h : List O) : (C (k + 1)).cn.call "turned_back" ws h = runF (C k) d_turned_back ws h := by rfl
theorem call_mirrored (k : Nat) (ws : List W) (h : List O) : (C (k + 1)).cn.call "mirrored" ws h = runF (C k) d_mirrored ws h := by rfl
theorem call__law_cell (k : Nat) (ws : List W) (h : List O) : (C (k + 1)).cn.call "_law_cell" ws h = runF (C k) d__law_cell ws h := by rfl
theorem call__law_bag (k : Nat) (ws : List W) (h : List O) : (C (k + 1)).cn.call "_law_bag" ws h = runF (C k) d__law_bag ws h := by rfl
theorem call__law_take (k : Nat) (ws : List W) (h : List O) : (C (k + 1)).cn.call "_law_take" ws h = runF (C k) d__law_take ws h := by rfl
theorem call__law_word (k : Nat) (ws : List W) (h : List O) : (C (k + 1)).cn.call "_law_word" ws h = runF (C k) d__law_word ws h := by rfl
theorem call__law_letters (k : Nat) (ws : List W) (h : List O) : (C (k + 1)).cn.call "_law_letters" ws h = runF (C k) d__law_letters ws h := by rfl
theorem call__law_model (k : Nat) (ws : List W) (h : List O) : (C (k + 1)).cn.call "_law_model" ws h = runF (C k) d__law_model ws h := by rfl
theorem call__law_made (k : Nat) (ws : List W) (h : List O) : (C (k + 1)).cn.call "_law_made" ws h = runF (C k) d__law_made ws h := by rfl
theorem call__law_swap_name (k : Nat) (ws : List W) (h : List O) : (C (k + 1)).cn.call "_law_swap_name" ws h = runF (C k) d__law_swap_name ws h := by rfl
theorem call__law_one (k : Nat) (ws : List W) (h : List O) : (C (k + 1)).cn.call "_law_one" ws h = runF (C k) d__law_one ws h := by rfl
theorem call__law_plus (k : Nat) (ws : List W) (h : List O) : (C (k + 1)).cn.call "_law_plus" ws h = runF (C k) d__law_plus ws h := by rfl
theorem call__law_read (k : Nat) (ws : List W) (h : List O) : (C (k + 1)).cn.call "_law_read" ws h = runF (C k) d__law_read ws h := by rfl
theorem call__law_is_step (k : Nat) (ws : List W) (h : List O) : (C (k + 1)).cn.call "_law_is_step" ws h = runF (C k) d__law_is_step ws h := by rfl
theorem call__law_row (k : Nat) (ws : List W) (h : List O) : (C (k + 1)).cn.call "_law_row" ws h = runF (C k) d__law_row ws h := by rfl
theorem call__law_back (k : Nat) (ws : List W) (h : List O) : (C (k + 1)).cn.call "_law_back" ws h = runF (C k) d__law_back ws h := by rfl
theorem call__law_right (k : Nat) (ws : List W) (h : List O) : (C (k + 1)).cn.call "_law_right" ws h = runF (C k) d__law_right ws h := by rfl
theorem call_law (k : Nat) (ws : List W) (h : List O) : (C (k + 1)).cn.call "law" ws h = runF (C k) d_law ws h := by rfl
@[simp] theorem gl_ADD (k : Nat) : (C k).cn.gl "ADD" = some (.str "add") := by cases k <;> rfl
@[simp] theorem gl_DROP (k : Nat) : (C k).cn.gl "DROP" = some (.str "drop") := by cases k <;> rfl
@[simp] theorem gl_KEEP (k : Nat) : (C k).cn.gl "KEEP" = some (.str "keep") := by cases k <;> rfl
@[simp] theorem gl_LETTERS (k : Nat) : (C k).cn.gl "LETTERS" = some (.str "abcdefghijklmnopqrstuvwxyz") := by cases k <;> rfl
@[simp] theorem gl_LONGEST_NAME (k : Nat) : (C k).cn.gl "LONGEST_NAME" = some (.int 8) := by cases k <;> rfl
@[simp] theorem gl_LONGEST_WORD (k : Nat) : (C k).cn.gl "LONGEST_WORD" = some (.int 6) := by cases k <;> rfl
@[simp] theorem gl_MOST_COSTS (k : Nat) : (C k).cn.gl "MOST_COSTS" = some (.int 4) := by cases k <;> rfl
@[simp] theorem gl_MOST_LETTERS (k : Nat) : (C k).cn.gl "MOST_LETTERS" = some (.int 26) := by cases k <;> rfl
@[simp] theorem gl_SWAP (k : Nat) : (C k).cn.gl "SWAP" = some (.str "swap") := by cases k <;> rfl
@[simp] theorem gl_TURN (k : Nat) : (C k).cn.gl "TURN" = some (.str "turn") := by cases k <;> rfl
@[simp] theorem C_exs (k : Nat) : (C k).exs = exs := by cases k <;> rfl
@[simp] theorem in_InvalidPart : (("InvalidPart" : Str), ("value" : Str)) ∈ exs := by decide +kernel
@[simp] theorem in_InvalidWord : (("InvalidWord" : Str), ("value" : Str)) ∈ exs := by decide +kernel
@[simp] theorem in_InvalidName : (("InvalidName" : Str), ("value" : Str)) ∈ exs := by decide +kernel
@[simp] theorem in_InvalidLetter : (("InvalidLetter" : Str), ("value" : Str)) ∈ exs := by decide +kernel
@[simp] theorem in_InvalidGroup : (("InvalidGroup" : Str), ("value" : Str)) ∈ exs := by decide +kernel
@[simp] theorem in_Duplicate : (("Duplicate" : Str), ("label" : Str)) ∈ exs := by decide +kernel
@[simp] theorem in_NotScheme : (("NotScheme" : Str), ("value" : Str)) ∈ exs := by decide +kernel
@[simp] theorem in_InvalidStep : (("InvalidStep" : Str), ("value" : Str)) ∈ exs := by decide +kernel
@[simp] theorem in_InvalidEdits : (("InvalidEdits" : Str), ("value" : Str)) ∈ exs := by decide +kernel
@[simp] theorem att_Scheme_own_costs (k : Nat) : (C k).cn.att "Scheme" "own_costs" = true := by cases k <;> (show decide ((("Scheme" : Str), ("own_costs" : Str)) ∈ kx.att) = true; decide +kernel)
@[simp] theorem att_Scheme_own_edits (k : Nat) : (C k).cn.att "Scheme" "own_edits" = true := by cases k <;> (show decide ((("Scheme" : Str), ("own_edits" : Str)) ∈ kx.att) = true; decide +kernel)
@[simp] theorem att_Scheme_own_groups (k : Nat) : (C k).cn.att "Scheme" "own_groups" = true := by cases k <;> (show decide ((("Scheme" : Str), ("own_groups" : Str)) ∈ kx.att) = true; decide +kernel)
@[simp] theorem att_Scheme_own_known (k : Nat) : (C k).cn.att "Scheme" "own_known" = true := by cases k <;> (show decide ((("Scheme" : Str), ("own_known" : Str)) ∈ kx.att) = true; decide +kernel)
@[simp] theorem att_Scheme_own_turn (k : Nat) : (C k).cn.att "Scheme" "own_turn" = true := by cases k <;> (show decide ((("Scheme" : Str), ("own_turn" : Str)) ∈ kx.att) = true; decide +kernel)
@[simp] theorem met_Scheme___contains__ (k : Nat) : (C k).cn.met "Scheme" "__contains__" = some ("Scheme.__contains__" : Str) := by cases k <;> rfl
@[simp] theorem met_Scheme_checked_groups (k : Nat) : (C k).cn.met "Scheme" "checked_groups" = some ("Scheme.checked_groups" : Str) := by cases k <;> rfl
@[simp] theorem met_Scheme_step_cost (k : Nat) : (C k).cn.met "Scheme" "step_cost" = some ("Scheme.step_cost" : Str) := by cases k <;> rfl
@[simp] theorem met_Scheme_swap_cost (k : Nat) : (C k).cn.met "Scheme" "swap_cost" = some ("Scheme.swap_cost" : Str) := by cases k <;> rfl
@[simp] theorem prp_Scheme_cost_to_add (k : Nat) : (C k).cn.prp "Scheme" "cost_to_add" = some ("Scheme.cost_to_add" : Str) := by cases k <;> rfl
@[simp] theorem nat_Scheme_cost_to_add (k : Nat) : (C k).cn.att "Scheme" "cost_to_add" = false := by cases k <;> (show decide ((("Scheme" : Str), ("cost_to_add" : Str)) ∈ kx.att) = false; decide +kernel)
@[simp] theorem prp_Scheme_cost_to_drop (k : Nat) : (C k).cn.prp "Scheme" "cost_to_drop" = some ("Scheme.cost_to_drop" : Str) := by cases k <;> rfl
@[simp] theorem nat_Scheme_cost_to_drop (k : Nat) : (C k).cn.att "Scheme" "cost_to_drop" = false := by cases k <;> (show decide ((("Scheme" : Str), ("cost_to_drop" : Str)) ∈ kx.att) = false; decide +kernel)
@[simp] theorem prp_Scheme_cost_to_turn (k : Nat) : (C k).cn.prp "Scheme" "cost_to_turn" = some ("Scheme.cost_to_turn" : Str) := by cases k <;> rfl
@[simp] theorem nat_Scheme_cost_to_turn (k : Nat) : (C k).cn.att "Scheme" "cost_to_turn" = false := by cases k <;> (show decide ((("Scheme" : Str), ("cost_to_turn" : Str)) ∈ kx.att) = false; decide +kernel)
@[simp] theorem prp_Scheme_costs (k : Nat) : (C k).cn.prp "Scheme" "costs" = some ("Scheme.costs" : Str) := by cases k <;> rfl
@[simp] theorem nat_Scheme_costs (k : Nat) : (C k).cn.att "Scheme" "costs" = false := by cases k <;> (show decide ((("Scheme" : Str), ("costs" : Str)) ∈ kx.att) = false; decide +kernel)
@[simp] theorem sub_Scheme_Scheme (k : Nat) : (C k).cn.sub "Scheme" "Scheme" = some true := by cases k <;> rfl
@[simp] theorem isn_Scheme (k : Nat) : (C k).cn.isn "Scheme" = true := by cases k <;> (show decide (("Scheme" : Str) ∈ kx.isn) = true; decide +kernel)
@[simp] theorem isk_Scheme (k : Nat) : (C k).cn.isk "Scheme" = true := by cases k <;> (show decide (("Scheme" : Str) ∈ kx.isk) = true; decide +kernel)
@[simp] theorem inn_Scheme (k : Nat) : (C k).cn.inn "Scheme" = some ("Scheme.__init__" : Str) := by cases k <;> rfl
@[simp] theorem frm_Scheme_cost_to_add_1_0 (k : Nat) : (C k).cn.frm "Scheme.cost_to_add" 1 [] = some [Ar.at 0] := by cases k <;> rfl
@[simp] theorem frm_Scheme_cost_to_drop_1_0 (k : Nat) : (C k).cn.frm "Scheme.cost_to_drop" 1 [] = some [Ar.at 0] := by cases k <;> rfl
@[simp] theorem frm_Scheme_cost_to_turn_1_0 (k : Nat) : (C k).cn.frm "Scheme.cost_to_turn" 1 [] = some [Ar.at 0] := by cases k <;> rfl
@[simp] theorem frm_Scheme_costs_1_0 (k : Nat) : (C k).cn.frm "Scheme.costs" 1 [] = some [Ar.at 0] := by cases k <;> rfl
@[simp] theorem frm_Scheme___contains___2_0 (k : Nat) : (C k).cn.frm "Scheme.__contains__" 2 [] = some [Ar.at 0, Ar.at 1] := by cases k <;> rfl
@[simp] theorem frm_Scheme_checked_groups_2_0 (k : Nat) : (C k).cn.frm "Scheme.checked_groups" 2 [] = some [Ar.at 0, Ar.at 1] := by cases k <;> rfl
@[simp] theorem frm_Scheme_step_cost_3_0 (k : Nat) : (C k).cn.frm "Scheme.step_cost" 3 [] = some [Ar.at 0, Ar.at 1, Ar.at 2] := by cases k <;> rfl
@[simp] theorem frm_Scheme_swap_cost_3_0 (k : Nat) : (C k).cn.frm "Scheme.swap_cost" 3 [] = some [Ar.at 0, Ar.at 1, Ar.at 2] := by cases k <;> rfl
@[simp] theorem frm_Scheme___init___2_5 (k : Nat) : (C k).cn.frm "Scheme.__init__" 2 ["add", "drop", "swap", "groups", "turn"] = some [Ar.at 0, Ar.at 1, Ar.at 2, Ar.at 3, Ar.at 4, Ar.at 5, Ar.at 6] := by cases k <;> rfl
/-! ### what the top has left -/
theorem all_mk {P : Program} {w : World} {K : PySem.W.Frag} {h : Heap} {mg : Str → Option Value} {fa : Addr} (X : K.In h) (N : h.Ns mainGlobals mg) (hfa : mg "law" = some (.ref fa))
    {f0 : Addr} {od0 an0 : Option Addr} {sl0 : Array (Option Value)} {oc0 kV0 dc0 pm0 cd0 ct0 : Value}
    {f1 : Addr} {od1 an1 : Option Addr} {sl1 : Array (Option Value)} {oc1 kV1 dc1 pm1 cd1 ct1 : Value}
    {f2 : Addr} {od2 an2 : Option Addr} {sl2 : Array (Option Value)} {oc2 kV2 dc2 pm2 cd2 ct2 : Value}
    {f3 : Addr} {od3 an3 : Option Addr} {sl3 : Array (Option Value)} {oc3 kV3 dc3 pm3 cd3 ct3 : Value}
    {f4 : Addr} {od4 an4 : Option Addr} {sl4 : Array (Option Value)} {oc4 kV4 dc4 pm4 cd4 ct4 : Value}
    {f5 : Addr} {od5 an5 : Option Addr} {sl5 : Array (Option Value)} {oc5 kV5 dc5 pm5 cd5 ct5 : Value}
    {f6 : Addr} {od6 an6 : Option Addr} {sl6 : Array (Option Value)} {oc6 kV6 dc6 pm6 cd6 ct6 : Value}
    {f7 : Addr} {od7 an7 : Option Addr} {sl7 : Array (Option Value)} {oc7 kV7 dc7 pm7 cd7 ct7 : Value}
    {f8 : Addr} {od8 an8 : Option Addr} {sl8 : Array (Option Value)} {oc8 kV8 dc8 pm8 cd8 ct8 : Value}
    {f9 : Addr} {od9 an9 : Option Addr} {sl9 : Array (Option Value)} {oc9 kV9 dc9 pm9 cd9 ct9 : Value}
    {f10 : Addr} {od10 an10 : Option Addr} {sl10 : Array (Option Value)} {oc10 kV10 dc10 pm10 cd10 ct10 : Value}
    {f11 : Addr} {od11 an11 : Option Addr} {sl11 : Array (Option Value)} {oc11 kV11 dc11 pm11 cd11 ct11 : Value}
    {f12 : Addr} {od12 an12 : Option Addr} {sl12 : Array (Option Value)} {oc12 kV12 dc12 pm12 cd12 ct12 : Value}
    {f13 : Addr} {od13 an13 : Option Addr} {sl13 : Array (Option Value)} {oc13 kV13 dc13 pm13 cd13 ct13 : Value}
    {f14 : Addr} {od14 an14 : Option Addr} {sl14 : Array (Option Value)} {oc14 kV14 dc14 pm14 cd14 ct14 : Value}
    {f15 : Addr} {od15 an15 : Option Addr} {sl15 : Array (Option Value)} {oc15 kV15 dc15 pm15 cd15 ct15 : Value}
    {f16 : Addr} {od16 an16 : Option Addr} {sl16 : Array (Option Value)} {oc16 kV16 dc16 pm16 cd16 ct16 : Value}
    {f17 : Addr} {od17 an17 : Option Addr} {sl17 : Array (Option Value)} {oc17 kV17 dc17 pm17 cd17 ct17 : Value}
    {f18 : Addr} {od18 an18 : Option Addr} {sl18 : Array (Option Value)} {oc18 kV18 dc18 pm18 cd18 ct18 : Value}
    {f19 : Addr} {od19 an19 : Option Addr} {sl19 : Array (Option Value)} {oc19 kV19 dc19 pm19 cd19 ct19 : Value}
    {f20 : Addr} {od20 an20 : Option Addr} {sl20 : Array (Option Value)} {oc20 kV20 dc20 pm20 cd20 ct20 : Value}
    {f21 : Addr} {od21 an21 : Option Addr} {sl21 : Array (Option Value)} {oc21 kV21 dc21 pm21 cd21 ct21 : Value}
    {f22 : Addr} {od22 an22 : Option Addr} {sl22 : Array (Option Value)} {oc22 kV22 dc22 pm22 cd22 ct22 : Value}
    {f23 : Addr} {od23 an23 : Option Addr} {sl23 : Array (Option Value)} {oc23 kV23 dc23 pm23 cd23 ct23 : Value}
    {f24 : Addr} {od24 an24 : Option Addr} {sl24 : Array (Option Value)} {oc24 kV24 dc24 pm24 cd24 ct24 : Value}
    {f25 : Addr} {od25 an25 : Option Addr} {sl25 : Array (Option Value)} {oc25 kV25 dc25 pm25 cd25 ct25 : Value}
    {f26 : Addr} {od26 an26 : Option Addr} {sl26 : Array (Option Value)} {oc26 kV26 dc26 pm26 cd26 ct26 : Value}
    {f27 : Addr} {od27 an27 : Option Addr} {sl27 : Array (Option Value)} {oc27 kV27 dc27 pm27 cd27 ct27 : Value}
    {f28 : Addr} {od28 an28 : Option Addr} {sl28 : Array (Option Value)} {oc28 kV28 dc28 pm28 cd28 ct28 : Value}
    {f29 : Addr} {od29 an29 : Option Addr} {sl29 : Array (Option Value)} {oc29 kV29 dc29 pm29 cd29 ct29 : Value}
    {f30 : Addr} {od30 an30 : Option Addr} {sl30 : Array (Option Value)} {oc30 kV30 dc30 pm30 cd30 ct30 : Value}
    {f31 : Addr} {od31 an31 : Option Addr} {sl31 : Array (Option Value)} {oc31 kV31 dc31 pm31 cd31 ct31 : Value}
    {f32 : Addr} {od32 an32 : Option Addr} {sl32 : Array (Option Value)} {oc32 kV32 dc32 pm32 cd32 ct32 : Value}
    {f33 : Addr} {od33 an33 : Option Addr} {sl33 : Array (Option Value)} {oc33 kV33 dc33 pm33 cd33 ct33 : Value}
    {f34 : Addr} {od34 an34 : Option Addr} {sl34 : Array (Option Value)} {oc34 kV34 dc34 pm34 cd34 ct34 : Value}
    {f35 : Addr} {od35 an35 : Option Addr} {sl35 : Array (Option Value)} {oc35 kV35 dc35 pm35 cd35 ct35 : Value}
    {f36 : Addr} {od36 an36 : Option Addr} {sl36 : Array (Option Value)} {oc36 kV36 dc36 pm36 cd36 ct36 : Value}
    {f37 : Addr} {od37 an37 : Option Addr} {sl37 : Array (Option Value)} {oc37 kV37 dc37 pm37 cd37 ct37 : Value}
    {f38 : Addr} {od38 an38 : Option Addr} {sl38 : Array (Option Value)} {oc38 kV38 dc38 pm38 cd38 ct38 : Value}
    {f39 : Addr} {od39 an39 : Option Addr} {sl39 : Array (Option Value)} {oc39 kV39 dc39 pm39 cd39 ct39 : Value}
    {f40 : Addr} {od40 an40 : Option Addr} {sl40 : Array (Option Value)} {oc40 kV40 dc40 pm40 cd40 ct40 : Value}
    {f41 : Addr} {od41 an41 : Option Addr} {sl41 : Array (Option Value)} {oc41 kV41 dc41 pm41 cd41 ct41 : Value}
    {f42 : Addr} {od42 an42 : Option Addr} {sl42 : Array (Option Value)} {oc42 kV42 dc42 pm42 cd42 ct42 : Value}
    {f43 : Addr} {od43 an43 : Option Addr} {sl43 : Array (Option Value)} {oc43 kV43 dc43 pm43 cd43 ct43 : Value}
    {f44 : Addr} {od44 an44 : Option Addr} {sl44 : Array (Option Value)} {oc44 kV44 dc44 pm44 cd44 ct44 : Value}
    {f45 : Addr} {od45 an45 : Option Addr} {sl45 : Array (Option Value)} {oc45 kV45 dc45 pm45 cd45 ct45 : Value}
    {K0 : Addr}
    {K1 : Addr}
    {K2 : Addr}
    {K3 : Addr}
    {K4 : Addr}
    {K5 : Addr}
    {K6 : Addr}
    {K7 : Addr}
    {K8 : Addr}
    {K9 : Addr}
    {K10 : Addr}
    {g0 : Addr} {god0 gan0 : Option Addr} {gsl0 : Array (Option Value)} {goc0 gkV0 gdc0 gpm0 gcd0 gct0 : Value} {gnm0 gq0 : Str} {gN0 : Addr} {gbs0 : List Value} {gsn0 : List Str} {gsub0 : List Value} {gab0 : Bool} {gcol0 : Option Bool} {gdd0 : Option Addr} {gma0 gmb0 gmc0 gmd0 gme0 : Option Value}
    {g1 : Addr} {god1 gan1 : Option Addr} {gsl1 : Array (Option Value)} {goc1 gkV1 gdc1 gpm1 gcd1 gct1 : Value} {gnm1 gq1 : Str} {gN1 : Addr} {gbs1 : List Value} {gsn1 : List Str} {gsub1 : List Value} {gab1 : Bool} {gcol1 : Option Bool} {gdd1 : Option Addr} {gma1 gmb1 gmc1 gmd1 gme1 : Option Value}
    {g2 : Addr} {god2 gan2 : Option Addr} {gsl2 : Array (Option Value)} {goc2 gkV2 gdc2 gpm2 gcd2 gct2 : Value} {gnm2 gq2 : Str} {gN2 : Addr} {gbs2 : List Value} {gsn2 : List Str} {gsub2 : List Value} {gab2 : Bool} {gcol2 : Option Bool} {gdd2 : Option Addr} {gma2 gmb2 gmc2 gmd2 gme2 : Option Value}
    {g3 : Addr} {god3 gan3 : Option Addr} {gsl3 : Array (Option Value)} {goc3 gkV3 gdc3 gpm3 gcd3 gct3 : Value} {gnm3 gq3 : Str} {gN3 : Addr} {gbs3 : List Value} {gsn3 : List Str} {gsub3 : List Value} {gab3 : Bool} {gcol3 : Option Bool} {gdd3 : Option Addr} {gma3 gmb3 gmc3 gmd3 gme3 : Option Value}
    {g4 : Addr} {god4 gan4 : Option Addr} {gsl4 : Array (Option Value)} {goc4 gkV4 gdc4 gpm4 gcd4 gct4 : Value} {gnm4 gq4 : Str} {gN4 : Addr} {gbs4 : List Value} {gsn4 : List Str} {gsub4 : List Value} {gab4 : Bool} {gcol4 : Option Bool} {gdd4 : Option Addr} {gma4 gmb4 gmc4 gmd4 gme4 : Option Value}
    {g5 : Addr} {god5 gan5 : Option Addr} {gsl5 : Array (Option Value)} {goc5 gkV5 gdc5 gpm5 gcd5 gct5 : Value} {gnm5 gq5 : Str} {gN5 : Addr} {gbs5 : List Value} {gsn5 : List Str} {gsub5 : List Value} {gab5 : Bool} {gcol5 : Option Bool} {gdd5 : Option Addr} {gma5 gmb5 gmc5 gmd5 gme5 : Option Value}
    {g6 : Addr} {god6 gan6 : Option Addr} {gsl6 : Array (Option Value)} {goc6 gkV6 gdc6 gpm6 gcd6 gct6 : Value} {gnm6 gq6 : Str} {gN6 : Addr} {gbs6 : List Value} {gsn6 : List Str} {gsub6 : List Value} {gab6 : Bool} {gcol6 : Option Bool} {gdd6 : Option Addr} {gma6 gmb6 gmc6 gmd6 gme6 : Option Value}
    {g7 : Addr} {god7 gan7 : Option Addr} {gsl7 : Array (Option Value)} {goc7 gkV7 gdc7 gpm7 gcd7 gct7 : Value} {gnm7 gq7 : Str} {gN7 : Addr} {gbs7 : List Value} {gsn7 : List Str} {gsub7 : List Value} {gab7 : Bool} {gcol7 : Option Bool} {gdd7 : Option Addr} {gma7 gmb7 gmc7 gmd7 gme7 : Option Value}
    {g8 : Addr} {god8 gan8 : Option Addr} {gsl8 : Array (Option Value)} {goc8 gkV8 gdc8 gpm8 gcd8 gct8 : Value} {gnm8 gq8 : Str} {gN8 : Addr} {gbs8 : List Value} {gsn8 : List Str} {gsub8 : List Value} {gab8 : Bool} {gcol8 : Option Bool} {gdd8 : Option Addr} {gma8 gmb8 gmc8 gmd8 gme8 : Option Value}
    {t0 : Tok}
    {t1 : Tok}
    {t2 : Tok}
    {t3 : Tok}
    {t4 : Tok}
    {t5 : Tok}
    {t6 : Tok}
    {t7 : Tok}
    {t8 : Tok}
    {t9 : Tok}
    {pr0 : Addr} {rs0 : List Value}
    {pr1 : Addr} {rs1 : List Value}
    {pr2 : Addr} {rs2 : List Value}
    {pr3 : Addr} {rs3 : List Value}
    {tD8 : Addr} {tc8 : Value} {td8 : Option Addr} {tm8 : Nat} {tl8 : Array (Option Value)} {tv8_0 : Value}
    (aC10 : PySem.W.nsIn K mainGlobals "Scheme" = some (some (.ref K10)))
    (mA0 : PySem.W.findIn K (.ref K10) "__init__" = some (some (.ref f0)))
    (mF0 : PySem.W.isFn K (.ref f0) = true)
    (l0 : K.lookup f0 = some ⟨oc0, od0, .func (PySem.W.fnOf "__init__" "Scheme.__init__" (L2.defArgs (clm 34 0)) (L2.defBody (clm 34 0)) (L2.defScope (clm 34 0)) .none kV0 dc0 pm0 an0 cd0 ct0), sl0⟩)
    (c0 : PySem.W.codeIn K cd0 "Scheme.__init__" = true)
    (k0 : PySem.W.keepIn K (.ref f0) = true)
    (mA1 : PySem.W.findIn K (.ref K10) "checked_groups" = some (some (.ref f1)))
    (mF1 : PySem.W.isFn K (.ref f1) = true)
    (l1 : K.lookup f1 = some ⟨oc1, od1, .func (PySem.W.fnOf "checked_groups" "Scheme.checked_groups" (L2.defArgs (clm 34 1)) (L2.defBody (clm 34 1)) (L2.defScope (clm 34 1)) .none kV1 dc1 pm1 an1 cd1 ct1), sl1⟩)
    (c1 : PySem.W.codeIn K cd1 "Scheme.checked_groups" = true)
    (k1 : PySem.W.keepIn K (.ref f1) = true)
    (pA3 : PySem.W.findIn K (.ref K10) "costs" = some (some (.ref pr3)))
    (pG3 : PySem.W.specialIn K (.ref pr3) "__get__" = some (some (.builtin "property.__get__")))
    (pT3 : PySem.W.takesIn K (.ref pr3) = some true)
    (pR3 : PySem.W.recIn K pr3 "property" = some (.ref f2 :: rs3))
    (l2 : K.lookup f2 = some ⟨oc2, od2, .func (PySem.W.fnOf "costs" "Scheme.costs" (L2.defArgs (clm 34 2)) (L2.defBody (clm 34 2)) (L2.defScope (clm 34 2)) .none kV2 dc2 pm2 an2 cd2 ct2), sl2⟩)
    (c2 : PySem.W.codeIn K cd2 "Scheme.costs" = true)
    (k2 : PySem.W.keepIn K (.ref f2) = true)
    (pA0 : PySem.W.findIn K (.ref K10) "cost_to_add" = some (some (.ref pr0)))
    (pG0 : PySem.W.specialIn K (.ref pr0) "__get__" = some (some (.builtin "property.__get__")))
    (pT0 : PySem.W.takesIn K (.ref pr0) = some true)
    (pR0 : PySem.W.recIn K pr0 "property" = some (.ref f3 :: rs0))
    (l3 : K.lookup f3 = some ⟨oc3, od3, .func (PySem.W.fnOf "cost_to_add" "Scheme.cost_to_add" (L2.defArgs (clm 34 3)) (L2.defBody (clm 34 3)) (L2.defScope (clm 34 3)) .none kV3 dc3 pm3 an3 cd3 ct3), sl3⟩)
    (c3 : PySem.W.codeIn K cd3 "Scheme.cost_to_add" = true)
    (k3 : PySem.W.keepIn K (.ref f3) = true)
    (pA1 : PySem.W.findIn K (.ref K10) "cost_to_drop" = some (some (.ref pr1)))
    (pG1 : PySem.W.specialIn K (.ref pr1) "__get__" = some (some (.builtin "property.__get__")))
    (pT1 : PySem.W.takesIn K (.ref pr1) = some true)
    (pR1 : PySem.W.recIn K pr1 "property" = some (.ref f4 :: rs1))
    (l4 : K.lookup f4 = some ⟨oc4, od4, .func (PySem.W.fnOf "cost_to_drop" "Scheme.cost_to_drop" (L2.defArgs (clm 34 4)) (L2.defBody (clm 34 4)) (L2.defScope (clm 34 4)) .none kV4 dc4 pm4 an4 cd4 ct4), sl4⟩)
    (c4 : PySem.W.codeIn K cd4 "Scheme.cost_to_drop" = true)
    (k4 : PySem.W.keepIn K (.ref f4) = true)
    (pA2 : PySem.W.findIn K (.ref K10) "cost_to_turn" = some (some (.ref pr2)))
    (pG2 : PySem.W.specialIn K (.ref pr2) "__get__" = some (some (.builtin "property.__get__")))
    (pT2 : PySem.W.takesIn K (.ref pr2) = some true)
    (pR2 : PySem.W.recIn K pr2 "property" = some (.ref f5 :: rs2))
    (l5 : K.lookup f5 = some ⟨oc5, od5, .func (PySem.W.fnOf "cost_to_turn" "Scheme.cost_to_turn" (L2.defArgs (clm 34 7)) (L2.defBody (clm 34 7)) (L2.defScope (clm 34 7)) .none kV5 dc5 pm5 an5 cd5 ct5), sl5⟩)
    (c5 : PySem.W.codeIn K cd5 "Scheme.cost_to_turn" = true)
    (k5 : PySem.W.keepIn K (.ref f5) = true)
    (mA6 : PySem.W.findIn K (.ref K10) "__contains__" = some (some (.ref f6)))
    (mF6 : PySem.W.isFn K (.ref f6) = true)
    (l6 : K.lookup f6 = some ⟨oc6, od6, .func (PySem.W.fnOf "__contains__" "Scheme.__contains__" (L2.defArgs (clm 34 11)) (L2.defBody (clm 34 11)) (L2.defScope (clm 34 11)) .none kV6 dc6 pm6 an6 cd6 ct6), sl6⟩)
    (c6 : PySem.W.codeIn K cd6 "Scheme.__contains__" = true)
    (k6 : PySem.W.keepIn K (.ref f6) = true)
    (mA7 : PySem.W.findIn K (.ref K10) "swap_cost" = some (some (.ref f7)))
    (mF7 : PySem.W.isFn K (.ref f7) = true)
    (l7 : K.lookup f7 = some ⟨oc7, od7, .func (PySem.W.fnOf "swap_cost" "Scheme.swap_cost" (L2.defArgs (clm 34 13)) (L2.defBody (clm 34 13)) (L2.defScope (clm 34 13)) .none kV7 dc7 pm7 an7 cd7 ct7), sl7⟩)
    (c7 : PySem.W.codeIn K cd7 "Scheme.swap_cost" = true)
    (k7 : PySem.W.keepIn K (.ref f7) = true)
    (mA8 : PySem.W.findIn K (.ref K10) "step_cost" = some (some (.ref f8)))
    (mF8 : PySem.W.isFn K (.ref f8) = true)
    (l8 : K.lookup f8 = some ⟨oc8, od8, .func (PySem.W.fnOf "step_cost" "Scheme.step_cost" (L2.defArgs (clm 34 14)) (L2.defBody (clm 34 14)) (L2.defScope (clm 34 14)) (.ref tD8) kV8 dc8 pm8 an8 cd8 ct8), sl8⟩)
    (lD8 : K.lookup tD8 = some ⟨tc8, td8, .seq #[tv8_0] tm8, tl8⟩)
    (c8 : PySem.W.codeIn K cd8 "Scheme.step_cost" = true)
    (k8 : PySem.W.keepIn K (.ref f8) = true)
    (a9 : PySem.W.nsIn K mainGlobals "_wall" = some (some (.ref f9)))
    (l9 : K.lookup f9 = some ⟨oc9, od9, .func (PySem.W.fnOf "_wall" "_wall" (L2.defArgs (top 0)) (L2.defBody (top 0)) (L2.defScope (top 0)) .none kV9 dc9 pm9 an9 cd9 ct9), sl9⟩)
    (c9 : PySem.W.codeIn K cd9 "_wall" = true)
    (k9 : PySem.W.keepIn K (.ref f9) = true)
    (a10 : PySem.W.nsIn K mainGlobals "is_list" = some (some (.ref f10)))
    (l10 : K.lookup f10 = some ⟨oc10, od10, .func (PySem.W.fnOf "is_list" "is_list" (L2.defArgs (top 18)) (L2.defBody (top 18)) (L2.defScope (top 18)) .none kV10 dc10 pm10 an10 cd10 ct10), sl10⟩)
    (c10 : PySem.W.codeIn K cd10 "is_list" = true)
    (k10 : PySem.W.keepIn K (.ref f10) = true)
    (a11 : PySem.W.nsIn K mainGlobals "is_row_words" = some (some (.ref f11)))
    (l11 : K.lookup f11 = some ⟨oc11, od11, .func (PySem.W.fnOf "is_row" "is_row" (L2.defArgs (top 19)) (L2.defBody (top 19)) (L2.defScope (top 19)) .none kV11 dc11 pm11 an11 cd11 ct11), sl11⟩)
    (c11 : PySem.W.codeIn K cd11 "is_row" = true)
    (k11 : PySem.W.keepIn K (.ref f11) = true)
    (a12 : PySem.W.nsIn K mainGlobals "is_spelled" = some (some (.ref f12)))
    (l12 : K.lookup f12 = some ⟨oc12, od12, .func (PySem.W.fnOf "is_spelled" "is_spelled" (L2.defArgs (top 21)) (L2.defBody (top 21)) (L2.defScope (top 21)) .none kV12 dc12 pm12 an12 cd12 ct12), sl12⟩)
    (c12 : PySem.W.codeIn K cd12 "is_spelled" = true)
    (k12 : PySem.W.keepIn K (.ref f12) = true)
    (a13 : PySem.W.nsIn K mainGlobals "is_word" = some (some (.ref f13)))
    (l13 : K.lookup f13 = some ⟨oc13, od13, .func (PySem.W.fnOf "is_word" "is_word" (L2.defArgs (top 22)) (L2.defBody (top 22)) (L2.defScope (top 22)) .none kV13 dc13 pm13 an13 cd13 ct13), sl13⟩)
    (c13 : PySem.W.codeIn K cd13 "is_word" = true)
    (k13 : PySem.W.keepIn K (.ref f13) = true)
    (a14 : PySem.W.nsIn K mainGlobals "is_name" = some (some (.ref f14)))
    (l14 : K.lookup f14 = some ⟨oc14, od14, .func (PySem.W.fnOf "is_name" "is_name" (L2.defArgs (top 23)) (L2.defBody (top 23)) (L2.defScope (top 23)) .none kV14 dc14 pm14 an14 cd14 ct14), sl14⟩)
    (c14 : PySem.W.codeIn K cd14 "is_name" = true)
    (k14 : PySem.W.keepIn K (.ref f14) = true)
    (a15 : PySem.W.nsIn K mainGlobals "is_letter" = some (some (.ref f15)))
    (l15 : K.lookup f15 = some ⟨oc15, od15, .func (PySem.W.fnOf "is_letter" "is_letter" (L2.defArgs (top 24)) (L2.defBody (top 24)) (L2.defScope (top 24)) .none kV15 dc15 pm15 an15 cd15 ct15), sl15⟩)
    (c15 : PySem.W.codeIn K cd15 "is_letter" = true)
    (k15 : PySem.W.keepIn K (.ref f15) = true)
    (a16 : PySem.W.nsIn K mainGlobals "checked_costs" = some (some (.ref f16)))
    (l16 : K.lookup f16 = some ⟨oc16, od16, .func (PySem.W.fnOf "checked_costs" "checked_costs" (L2.defArgs (top 33)) (L2.defBody (top 33)) (L2.defScope (top 33)) .none kV16 dc16 pm16 an16 cd16 ct16), sl16⟩)
    (c16 : PySem.W.codeIn K cd16 "checked_costs" = true)
    (k16 : PySem.W.keepIn K (.ref f16) = true)
    (a17 : PySem.W.nsIn K mainGlobals "is_step" = some (some (.ref f17)))
    (l17 : K.lookup f17 = some ⟨oc17, od17, .func (PySem.W.fnOf "is_step" "is_step" (L2.defArgs (top 35)) (L2.defBody (top 35)) (L2.defScope (top 35)) .none kV17 dc17 pm17 an17 cd17 ct17), sl17⟩)
    (c17 : PySem.W.codeIn K cd17 "is_step" = true)
    (k17 : PySem.W.keepIn K (.ref f17) = true)
    (a18 : PySem.W.nsIn K mainGlobals "need_scheme" = some (some (.ref f18)))
    (l18 : K.lookup f18 = some ⟨oc18, od18, .func (PySem.W.fnOf "need_scheme" "need_scheme" (L2.defArgs (top 36)) (L2.defBody (top 36)) (L2.defScope (top 36)) .none kV18 dc18 pm18 an18 cd18 ct18), sl18⟩)
    (c18 : PySem.W.codeIn K cd18 "need_scheme" = true)
    (k18 : PySem.W.keepIn K (.ref f18) = true)
    (a19 : PySem.W.nsIn K mainGlobals "need_word" = some (some (.ref f19)))
    (l19 : K.lookup f19 = some ⟨oc19, od19, .func (PySem.W.fnOf "need_word" "need_word" (L2.defArgs (top 38)) (L2.defBody (top 38)) (L2.defScope (top 38)) .none kV19 dc19 pm19 an19 cd19 ct19), sl19⟩)
    (c19 : PySem.W.codeIn K cd19 "need_word" = true)
    (k19 : PySem.W.keepIn K (.ref f19) = true)
    (a20 : PySem.W.nsIn K mainGlobals "step_text" = some (some (.ref f20)))
    (l20 : K.lookup f20 = some ⟨oc20, od20, .func (PySem.W.fnOf "step_text" "step_text" (L2.defArgs (top 39)) (L2.defBody (top 39)) (L2.defScope (top 39)) .none kV20 dc20 pm20 an20 cd20 ct20), sl20⟩)
    (c20 : PySem.W.codeIn K cd20 "step_text" = true)
    (k20 : PySem.W.keepIn K (.ref f20) = true)
    (a21 : PySem.W.nsIn K mainGlobals "read_row" = some (some (.ref f21)))
    (l21 : K.lookup f21 = some ⟨oc21, od21, .func (PySem.W.fnOf "read_row" "read_row" (L2.defArgs (top 40)) (L2.defBody (top 40)) (L2.defScope (top 40)) .none kV21 dc21 pm21 an21 cd21 ct21), sl21⟩)
    (c21 : PySem.W.codeIn K cd21 "read_row" = true)
    (k21 : PySem.W.keepIn K (.ref f21) = true)
    (a22 : PySem.W.nsIn K mainGlobals "is_row_rows" = some (some (.ref f22)))
    (l22 : K.lookup f22 = some ⟨oc22, od22, .func (PySem.W.fnOf "is_row" "is_row" (L2.defArgs (top 41)) (L2.defBody (top 41)) (L2.defScope (top 41)) .none kV22 dc22 pm22 an22 cd22 ct22), sl22⟩)
    (c22 : PySem.W.codeIn K cd22 "is_row" = true)
    (k22 : PySem.W.keepIn K (.ref f22) = true)
    (a23 : PySem.W.nsIn K mainGlobals "need_row" = some (some (.ref f23)))
    (l23 : K.lookup f23 = some ⟨oc23, od23, .func (PySem.W.fnOf "need_row" "need_row" (L2.defArgs (top 43)) (L2.defBody (top 43)) (L2.defScope (top 43)) .none kV23 dc23 pm23 an23 cd23 ct23), sl23⟩)
    (c23 : PySem.W.codeIn K cd23 "need_row" = true)
    (k23 : PySem.W.keepIn K (.ref f23) = true)
    (a24 : PySem.W.nsIn K mainGlobals "written" = some (some (.ref f24)))
    (l24 : K.lookup f24 = some ⟨oc24, od24, .func (PySem.W.fnOf "written" "written" (L2.defArgs (top 44)) (L2.defBody (top 44)) (L2.defScope (top 44)) .none kV24 dc24 pm24 an24 cd24 ct24), sl24⟩)
    (c24 : PySem.W.codeIn K cd24 "written" = true)
    (k24 : PySem.W.keepIn K (.ref f24) = true)
    (a25 : PySem.W.nsIn K mainGlobals "met" = some (some (.ref f25)))
    (l25 : K.lookup f25 = some ⟨oc25, od25, .func (PySem.W.fnOf "met" "met" (L2.defArgs (top 45)) (L2.defBody (top 45)) (L2.defScope (top 45)) .none kV25 dc25 pm25 an25 cd25 ct25), sl25⟩)
    (c25 : PySem.W.codeIn K cd25 "met" = true)
    (k25 : PySem.W.keepIn K (.ref f25) = true)
    (a26 : PySem.W.nsIn K mainGlobals "counted" = some (some (.ref f26)))
    (l26 : K.lookup f26 = some ⟨oc26, od26, .func (PySem.W.fnOf "counted" "counted" (L2.defArgs (top 46)) (L2.defBody (top 46)) (L2.defScope (top 46)) .none kV26 dc26 pm26 an26 cd26 ct26), sl26⟩)
    (c26 : PySem.W.codeIn K cd26 "counted" = true)
    (k26 : PySem.W.keepIn K (.ref f26) = true)
    (a27 : PySem.W.nsIn K mainGlobals "counts_of" = some (some (.ref f27)))
    (l27 : K.lookup f27 = some ⟨oc27, od27, .func (PySem.W.fnOf "counts_of" "counts_of" (L2.defArgs (top 47)) (L2.defBody (top 47)) (L2.defScope (top 47)) .none kV27 dc27 pm27 an27 cd27 ct27), sl27⟩)
    (c27 : PySem.W.codeIn K cd27 "counts_of" = true)
    (k27 : PySem.W.keepIn K (.ref f27) = true)
    (a28 : PySem.W.nsIn K mainGlobals "turned_back" = some (some (.ref f28)))
    (l28 : K.lookup f28 = some ⟨oc28, od28, .func (PySem.W.fnOf "turned_back" "turned_back" (L2.defArgs (top 48)) (L2.defBody (top 48)) (L2.defScope (top 48)) .none kV28 dc28 pm28 an28 cd28 ct28), sl28⟩)
    (c28 : PySem.W.codeIn K cd28 "turned_back" = true)
    (k28 : PySem.W.keepIn K (.ref f28) = true)
    (a29 : PySem.W.nsIn K mainGlobals "mirrored" = some (some (.ref f29)))
    (l29 : K.lookup f29 = some ⟨oc29, od29, .func (PySem.W.fnOf "mirrored" "mirrored" (L2.defArgs (top 49)) (L2.defBody (top 49)) (L2.defScope (top 49)) .none kV29 dc29 pm29 an29 cd29 ct29), sl29⟩)
    (c29 : PySem.W.codeIn K cd29 "mirrored" = true)
    (k29 : PySem.W.keepIn K (.ref f29) = true)
    (a30 : PySem.W.nsIn K mainGlobals "_law_cell" = some (some (.ref f30)))
    (l30 : K.lookup f30 = some ⟨oc30, od30, .func (PySem.W.fnOf "_law_cell" "_law_cell" (L2.defArgs (top 51)) (L2.defBody (top 51)) (L2.defScope (top 51)) .none kV30 dc30 pm30 an30 cd30 ct30), sl30⟩)
    (c30 : PySem.W.codeIn K cd30 "_law_cell" = true)
    (k30 : PySem.W.keepIn K (.ref f30) = true)
    (a31 : PySem.W.nsIn K mainGlobals "_law_bag" = some (some (.ref f31)))
    (l31 : K.lookup f31 = some ⟨oc31, od31, .func (PySem.W.fnOf "_law_bag" "_law_bag" (L2.defArgs (top 52)) (L2.defBody (top 52)) (L2.defScope (top 52)) .none kV31 dc31 pm31 an31 cd31 ct31), sl31⟩)
    (c31 : PySem.W.codeIn K cd31 "_law_bag" = true)
    (k31 : PySem.W.keepIn K (.ref f31) = true)
    (a32 : PySem.W.nsIn K mainGlobals "_law_take" = some (some (.ref f32)))
    (l32 : K.lookup f32 = some ⟨oc32, od32, .func (PySem.W.fnOf "_law_take" "_law_take" (L2.defArgs (top 53)) (L2.defBody (top 53)) (L2.defScope (top 53)) .none kV32 dc32 pm32 an32 cd32 ct32), sl32⟩)
    (c32 : PySem.W.codeIn K cd32 "_law_take" = true)
    (k32 : PySem.W.keepIn K (.ref f32) = true)
    (a33 : PySem.W.nsIn K mainGlobals "_law_word" = some (some (.ref f33)))
    (l33 : K.lookup f33 = some ⟨oc33, od33, .func (PySem.W.fnOf "_law_word" "_law_word" (L2.defArgs (top 54)) (L2.defBody (top 54)) (L2.defScope (top 54)) .none kV33 dc33 pm33 an33 cd33 ct33), sl33⟩)
    (c33 : PySem.W.codeIn K cd33 "_law_word" = true)
    (k33 : PySem.W.keepIn K (.ref f33) = true)
    (a34 : PySem.W.nsIn K mainGlobals "_law_letters" = some (some (.ref f34)))
    (l34 : K.lookup f34 = some ⟨oc34, od34, .func (PySem.W.fnOf "_law_letters" "_law_letters" (L2.defArgs (top 55)) (L2.defBody (top 55)) (L2.defScope (top 55)) .none kV34 dc34 pm34 an34 cd34 ct34), sl34⟩)
    (c34 : PySem.W.codeIn K cd34 "_law_letters" = true)
    (k34 : PySem.W.keepIn K (.ref f34) = true)
    (a35 : PySem.W.nsIn K mainGlobals "_law_model" = some (some (.ref f35)))
    (l35 : K.lookup f35 = some ⟨oc35, od35, .func (PySem.W.fnOf "_law_model" "_law_model" (L2.defArgs (top 56)) (L2.defBody (top 56)) (L2.defScope (top 56)) .none kV35 dc35 pm35 an35 cd35 ct35), sl35⟩)
    (c35 : PySem.W.codeIn K cd35 "_law_model" = true)
    (k35 : PySem.W.keepIn K (.ref f35) = true)
    (a36 : PySem.W.nsIn K mainGlobals "_law_made" = some (some (.ref f36)))
    (l36 : K.lookup f36 = some ⟨oc36, od36, .func (PySem.W.fnOf "_law_made" "_law_made" (L2.defArgs (top 57)) (L2.defBody (top 57)) (L2.defScope (top 57)) .none kV36 dc36 pm36 an36 cd36 ct36), sl36⟩)
    (c36 : PySem.W.codeIn K cd36 "_law_made" = true)
    (k36 : PySem.W.keepIn K (.ref f36) = true)
    (a37 : PySem.W.nsIn K mainGlobals "_law_swap_name" = some (some (.ref f37)))
    (l37 : K.lookup f37 = some ⟨oc37, od37, .func (PySem.W.fnOf "_law_swap_name" "_law_swap_name" (L2.defArgs (top 58)) (L2.defBody (top 58)) (L2.defScope (top 58)) .none kV37 dc37 pm37 an37 cd37 ct37), sl37⟩)
    (c37 : PySem.W.codeIn K cd37 "_law_swap_name" = true)
    (k37 : PySem.W.keepIn K (.ref f37) = true)
    (a38 : PySem.W.nsIn K mainGlobals "_law_one" = some (some (.ref f38)))
    (l38 : K.lookup f38 = some ⟨oc38, od38, .func (PySem.W.fnOf "_law_one" "_law_one" (L2.defArgs (top 59)) (L2.defBody (top 59)) (L2.defScope (top 59)) .none kV38 dc38 pm38 an38 cd38 ct38), sl38⟩)
    (c38 : PySem.W.codeIn K cd38 "_law_one" = true)
    (k38 : PySem.W.keepIn K (.ref f38) = true)
    (a39 : PySem.W.nsIn K mainGlobals "_law_plus" = some (some (.ref f39)))
    (l39 : K.lookup f39 = some ⟨oc39, od39, .func (PySem.W.fnOf "_law_plus" "_law_plus" (L2.defArgs (top 60)) (L2.defBody (top 60)) (L2.defScope (top 60)) .none kV39 dc39 pm39 an39 cd39 ct39), sl39⟩)
    (c39 : PySem.W.codeIn K cd39 "_law_plus" = true)
    (k39 : PySem.W.keepIn K (.ref f39) = true)
    (a40 : PySem.W.nsIn K mainGlobals "_law_read" = some (some (.ref f40)))
    (l40 : K.lookup f40 = some ⟨oc40, od40, .func (PySem.W.fnOf "_law_read" "_law_read" (L2.defArgs (top 61)) (L2.defBody (top 61)) (L2.defScope (top 61)) .none kV40 dc40 pm40 an40 cd40 ct40), sl40⟩)
    (c40 : PySem.W.codeIn K cd40 "_law_read" = true)
    (k40 : PySem.W.keepIn K (.ref f40) = true)
    (a41 : PySem.W.nsIn K mainGlobals "_law_is_step" = some (some (.ref f41)))
    (l41 : K.lookup f41 = some ⟨oc41, od41, .func (PySem.W.fnOf "_law_is_step" "_law_is_step" (L2.defArgs (top 62)) (L2.defBody (top 62)) (L2.defScope (top 62)) .none kV41 dc41 pm41 an41 cd41 ct41), sl41⟩)
    (c41 : PySem.W.codeIn K cd41 "_law_is_step" = true)
    (k41 : PySem.W.keepIn K (.ref f41) = true)
    (a42 : PySem.W.nsIn K mainGlobals "_law_row" = some (some (.ref f42)))
    (l42 : K.lookup f42 = some ⟨oc42, od42, .func (PySem.W.fnOf "_law_row" "_law_row" (L2.defArgs (top 63)) (L2.defBody (top 63)) (L2.defScope (top 63)) .none kV42 dc42 pm42 an42 cd42 ct42), sl42⟩)
    (c42 : PySem.W.codeIn K cd42 "_law_row" = true)
    (k42 : PySem.W.keepIn K (.ref f42) = true)
    (a43 : PySem.W.nsIn K mainGlobals "_law_back" = some (some (.ref f43)))
    (l43 : K.lookup f43 = some ⟨oc43, od43, .func (PySem.W.fnOf "_law_back" "_law_back" (L2.defArgs (top 64)) (L2.defBody (top 64)) (L2.defScope (top 64)) .none kV43 dc43 pm43 an43 cd43 ct43), sl43⟩)
    (c43 : PySem.W.codeIn K cd43 "_law_back" = true)
    (k43 : PySem.W.keepIn K (.ref f43) = true)
    (a44 : PySem.W.nsIn K mainGlobals "_law_right" = some (some (.ref f44)))
    (l44 : K.lookup f44 = some ⟨oc44, od44, .func (PySem.W.fnOf "_law_right" "_law_right" (L2.defArgs (top 65)) (L2.defBody (top 65)) (L2.defScope (top 65)) .none kV44 dc44 pm44 an44 cd44 ct44), sl44⟩)
    (c44 : PySem.W.codeIn K cd44 "_law_right" = true)
    (k44 : PySem.W.keepIn K (.ref f44) = true)
    (a45 : PySem.W.nsIn K mainGlobals "law" = some (some (.ref f45)))
    (l45 : K.lookup f45 = some ⟨oc45, od45, .func (PySem.W.fnOf "law" "law" (L2.defArgs (top 66)) (L2.defBody (top 66)) (L2.defScope (top 66)) .none kV45 dc45 pm45 an45 cd45 ct45), sl45⟩)
    (c45 : PySem.W.codeIn K cd45 "law" = true)
    (k45 : PySem.W.keepIn K (.ref f45) = true)
    (aC0 : PySem.W.nsIn K mainGlobals "ChoiceError" = some (some (.ref K0)))
    (aC1 : PySem.W.nsIn K mainGlobals "InvalidPart" = some (some (.ref K1)))
    (eC1 : PySem.W.subIn K (.ref K1) (.type "BaseException") = some true)
    (tC1 : PySem.W.typeIn K (.ref K1) = some (.type "type"))
    (aC2 : PySem.W.nsIn K mainGlobals "InvalidWord" = some (some (.ref K2)))
    (eC2 : PySem.W.subIn K (.ref K2) (.type "BaseException") = some true)
    (tC2 : PySem.W.typeIn K (.ref K2) = some (.type "type"))
    (aC3 : PySem.W.nsIn K mainGlobals "InvalidName" = some (some (.ref K3)))
    (eC3 : PySem.W.subIn K (.ref K3) (.type "BaseException") = some true)
    (tC3 : PySem.W.typeIn K (.ref K3) = some (.type "type"))
    (aC4 : PySem.W.nsIn K mainGlobals "InvalidLetter" = some (some (.ref K4)))
    (eC4 : PySem.W.subIn K (.ref K4) (.type "BaseException") = some true)
    (tC4 : PySem.W.typeIn K (.ref K4) = some (.type "type"))
    (aC5 : PySem.W.nsIn K mainGlobals "InvalidGroup" = some (some (.ref K5)))
    (eC5 : PySem.W.subIn K (.ref K5) (.type "BaseException") = some true)
    (tC5 : PySem.W.typeIn K (.ref K5) = some (.type "type"))
    (aC6 : PySem.W.nsIn K mainGlobals "Duplicate" = some (some (.ref K6)))
    (eC6 : PySem.W.subIn K (.ref K6) (.type "BaseException") = some true)
    (tC6 : PySem.W.typeIn K (.ref K6) = some (.type "type"))
    (aC7 : PySem.W.nsIn K mainGlobals "NotScheme" = some (some (.ref K7)))
    (eC7 : PySem.W.subIn K (.ref K7) (.type "BaseException") = some true)
    (tC7 : PySem.W.typeIn K (.ref K7) = some (.type "type"))
    (aC8 : PySem.W.nsIn K mainGlobals "InvalidStep" = some (some (.ref K8)))
    (eC8 : PySem.W.subIn K (.ref K8) (.type "BaseException") = some true)
    (tC8 : PySem.W.typeIn K (.ref K8) = some (.type "type"))
    (aC9 : PySem.W.nsIn K mainGlobals "InvalidEdits" = some (some (.ref K9)))
    (eC9 : PySem.W.subIn K (.ref K9) (.type "BaseException") = some true)
    (tC9 : PySem.W.typeIn K (.ref K9) = some (.type "type"))
    (yA10 : PySem.W.plainGet K K10 Str.empty = true)
    (yB10 : PySem.W.hasDictIn K K10 = true)
    (yC10 : PySem.W.plainOver K K10 = true)
    (yD10 : PySem.W.findIn K (.ref K10) "__setattr__" = some (some (.builtin "object.__setattr__")))
    (yE10 : PySem.W.findIn K (.ref K10) "__class__" = some (some (.builtin "object.__class__")))
    (yF10 : PySem.W.specialIn K (.builtin "object.__class__") "__get__" = some (some (.builtin "getset_descriptor.__get__")))
    (yG10 : PySem.W.takesIn K (.builtin "object.__class__") = some true)
    (yH10 : PySem.W.mroIn K K10 (.type "object") = some true)
    (yI10int : PySem.W.subIn K (.ref K10) (.type "int") = some false)
    (yI10bool : PySem.W.subIn K (.ref K10) (.type "bool") = some false)
    (yI10str : PySem.W.subIn K (.ref K10) (.type "str") = some false)
    (yI10list : PySem.W.subIn K (.ref K10) (.type "list") = some false)
    (yI10tuple : PySem.W.subIn K (.ref K10) (.type "tuple") = some false)
    (yI10dict : PySem.W.subIn K (.ref K10) (.type "dict") = some false)
    (yO10 : PySem.W.isClsIn K K10 = true)
    (yP10 : PySem.W.typeIn K (.ref K10) = some (.type "type"))
    (yJ10NoneType : PySem.W.subIn K (.type "NoneType") (.ref K10) = some false)
    (yJ10bool : PySem.W.subIn K (.type "bool") (.ref K10) = some false)
    (yJ10int : PySem.W.subIn K (.type "int") (.ref K10) = some false)
    (yJ10str : PySem.W.subIn K (.type "str") (.ref K10) = some false)
    (yJ10tuple : PySem.W.subIn K (.type "tuple") (.ref K10) = some false)
    (yJ10list : PySem.W.subIn K (.type "list") (.ref K10) = some false)
    (yJ10dict : PySem.W.subIn K (.type "dict") (.ref K10) = some false)
    (yK0 : PySem.W.findIn K (.ref K10) "own_costs" = some none)
    (yK1 : PySem.W.findIn K (.ref K10) "own_edits" = some none)
    (yK2 : PySem.W.findIn K (.ref K10) "own_groups" = some none)
    (yK3 : PySem.W.findIn K (.ref K10) "own_known" = some none)
    (yK4 : PySem.W.findIn K (.ref K10) "own_turn" = some none)
    (yL10 : PySem.W.makesIn K K10 = true)
    (yM10 : PySem.W.keepIn K (.ref K10) = true)
    (rd0 : PySem.W.readsIn K K0 (.type "type") = true)
    (ga0 : PySem.W.specialIn K (.ref K0) "__getattribute__" = some (some (.builtin "type.__getattribute__")))
    (in0 : PySem.W.findCls K (.ref K0) (.type "type") "__init__" = some (.val (.builtin "ValueError.__init__")))
    (xL0 : K.lookup K1 = some (excClassObj gnm0 gq0 K1 gN0 gbs0 [.ref K0, .type "ValueError", .type "Exception", .type "BaseException", .type "object"] true gsn0 gsub0 gab0 gcol0 gdd0 gma0 gmb0 gmc0 gmd0 gme0 "ValueError.__new__"))
    (sa0 : PySem.W.findIn K (.ref K1) "__setattr__" = some (some (.builtin "object.__setattr__")))
    (gax0 : PySem.W.findIn K (.ref K1) "__getattribute__" = some (some (.builtin "BaseException.__getattribute__")))
    (gg0 : PySem.W.findIn K (.ref K1) "__getattr__" = some none)
    (nb0 : PySem.W.findIn K (.ref K1) "value" = some none)
    (iN0 : PySem.W.findIn K (.ref K1) "__init__" = some (some (.ref g0)))
    (tI0 : PySem.W.typeIn K (.ref g0) = some (.type "function"))
    (lI0 : K.lookup g0 = some ⟨goc0, god0, .func (PySem.W.fnOf "__init__" "InvalidPart.__init__" (L2.defArgs (clm 4 0)) (L2.defBody (clm 4 0)) (L2.defScope (clm 4 0)) .none gkV0 gdc0 gpm0 gan0 gcd0 gct0), gsl0⟩)
    (cI0 : PySem.W.codeIn K gcd0 "InvalidPart.__init__" = true)
    (kI0 : PySem.W.keepIn K (.ref g0) = true)
    (kC0 : PySem.W.keepIn K (.ref K1) = true)
    (hC0 : PySem.W.hasDictIn K K1 = true)
    (xL1 : K.lookup K2 = some (excClassObj gnm1 gq1 K2 gN1 gbs1 [.ref K0, .type "ValueError", .type "Exception", .type "BaseException", .type "object"] true gsn1 gsub1 gab1 gcol1 gdd1 gma1 gmb1 gmc1 gmd1 gme1 "ValueError.__new__"))
    (sa1 : PySem.W.findIn K (.ref K2) "__setattr__" = some (some (.builtin "object.__setattr__")))
    (gax1 : PySem.W.findIn K (.ref K2) "__getattribute__" = some (some (.builtin "BaseException.__getattribute__")))
    (gg1 : PySem.W.findIn K (.ref K2) "__getattr__" = some none)
    (nb1 : PySem.W.findIn K (.ref K2) "value" = some none)
    (iN1 : PySem.W.findIn K (.ref K2) "__init__" = some (some (.ref g1)))
    (tI1 : PySem.W.typeIn K (.ref g1) = some (.type "function"))
    (lI1 : K.lookup g1 = some ⟨goc1, god1, .func (PySem.W.fnOf "__init__" "InvalidWord.__init__" (L2.defArgs (clm 5 0)) (L2.defBody (clm 5 0)) (L2.defScope (clm 5 0)) .none gkV1 gdc1 gpm1 gan1 gcd1 gct1), gsl1⟩)
    (cI1 : PySem.W.codeIn K gcd1 "InvalidWord.__init__" = true)
    (kI1 : PySem.W.keepIn K (.ref g1) = true)
    (kC1 : PySem.W.keepIn K (.ref K2) = true)
    (hC1 : PySem.W.hasDictIn K K2 = true)
    (xL2 : K.lookup K3 = some (excClassObj gnm2 gq2 K3 gN2 gbs2 [.ref K0, .type "ValueError", .type "Exception", .type "BaseException", .type "object"] true gsn2 gsub2 gab2 gcol2 gdd2 gma2 gmb2 gmc2 gmd2 gme2 "ValueError.__new__"))
    (sa2 : PySem.W.findIn K (.ref K3) "__setattr__" = some (some (.builtin "object.__setattr__")))
    (gax2 : PySem.W.findIn K (.ref K3) "__getattribute__" = some (some (.builtin "BaseException.__getattribute__")))
    (gg2 : PySem.W.findIn K (.ref K3) "__getattr__" = some none)
    (nb2 : PySem.W.findIn K (.ref K3) "value" = some none)
    (iN2 : PySem.W.findIn K (.ref K3) "__init__" = some (some (.ref g2)))
    (tI2 : PySem.W.typeIn K (.ref g2) = some (.type "function"))
    (lI2 : K.lookup g2 = some ⟨goc2, god2, .func (PySem.W.fnOf "__init__" "InvalidName.__init__" (L2.defArgs (clm 6 0)) (L2.defBody (clm 6 0)) (L2.defScope (clm 6 0)) .none gkV2 gdc2 gpm2 gan2 gcd2 gct2), gsl2⟩)
    (cI2 : PySem.W.codeIn K gcd2 "InvalidName.__init__" = true)
    (kI2 : PySem.W.keepIn K (.ref g2) = true)
    (kC2 : PySem.W.keepIn K (.ref K3) = true)
    (hC2 : PySem.W.hasDictIn K K3 = true)
    (xL3 : K.lookup K4 = some (excClassObj gnm3 gq3 K4 gN3 gbs3 [.ref K0, .type "ValueError", .type "Exception", .type "BaseException", .type "object"] true gsn3 gsub3 gab3 gcol3 gdd3 gma3 gmb3 gmc3 gmd3 gme3 "ValueError.__new__"))
    (sa3 : PySem.W.findIn K (.ref K4) "__setattr__" = some (some (.builtin "object.__setattr__")))
    (gax3 : PySem.W.findIn K (.ref K4) "__getattribute__" = some (some (.builtin "BaseException.__getattribute__")))
    (gg3 : PySem.W.findIn K (.ref K4) "__getattr__" = some none)
    (nb3 : PySem.W.findIn K (.ref K4) "value" = some none)
    (iN3 : PySem.W.findIn K (.ref K4) "__init__" = some (some (.ref g3)))
    (tI3 : PySem.W.typeIn K (.ref g3) = some (.type "function"))
    (lI3 : K.lookup g3 = some ⟨goc3, god3, .func (PySem.W.fnOf "__init__" "InvalidLetter.__init__" (L2.defArgs (clm 7 0)) (L2.defBody (clm 7 0)) (L2.defScope (clm 7 0)) .none gkV3 gdc3 gpm3 gan3 gcd3 gct3), gsl3⟩)
    (cI3 : PySem.W.codeIn K gcd3 "InvalidLetter.__init__" = true)
    (kI3 : PySem.W.keepIn K (.ref g3) = true)
    (kC3 : PySem.W.keepIn K (.ref K4) = true)
    (hC3 : PySem.W.hasDictIn K K4 = true)
    (xL4 : K.lookup K5 = some (excClassObj gnm4 gq4 K5 gN4 gbs4 [.ref K0, .type "ValueError", .type "Exception", .type "BaseException", .type "object"] true gsn4 gsub4 gab4 gcol4 gdd4 gma4 gmb4 gmc4 gmd4 gme4 "ValueError.__new__"))
    (sa4 : PySem.W.findIn K (.ref K5) "__setattr__" = some (some (.builtin "object.__setattr__")))
    (gax4 : PySem.W.findIn K (.ref K5) "__getattribute__" = some (some (.builtin "BaseException.__getattribute__")))
    (gg4 : PySem.W.findIn K (.ref K5) "__getattr__" = some none)
    (nb4 : PySem.W.findIn K (.ref K5) "value" = some none)
    (iN4 : PySem.W.findIn K (.ref K5) "__init__" = some (some (.ref g4)))
    (tI4 : PySem.W.typeIn K (.ref g4) = some (.type "function"))
    (lI4 : K.lookup g4 = some ⟨goc4, god4, .func (PySem.W.fnOf "__init__" "InvalidGroup.__init__" (L2.defArgs (clm 8 0)) (L2.defBody (clm 8 0)) (L2.defScope (clm 8 0)) .none gkV4 gdc4 gpm4 gan4 gcd4 gct4), gsl4⟩)
    (cI4 : PySem.W.codeIn K gcd4 "InvalidGroup.__init__" = true)
    (kI4 : PySem.W.keepIn K (.ref g4) = true)
    (kC4 : PySem.W.keepIn K (.ref K5) = true)
    (hC4 : PySem.W.hasDictIn K K5 = true)
    (xL5 : K.lookup K6 = some (excClassObj gnm5 gq5 K6 gN5 gbs5 [.ref K0, .type "ValueError", .type "Exception", .type "BaseException", .type "object"] true gsn5 gsub5 gab5 gcol5 gdd5 gma5 gmb5 gmc5 gmd5 gme5 "ValueError.__new__"))
    (sa5 : PySem.W.findIn K (.ref K6) "__setattr__" = some (some (.builtin "object.__setattr__")))
    (gax5 : PySem.W.findIn K (.ref K6) "__getattribute__" = some (some (.builtin "BaseException.__getattribute__")))
    (gg5 : PySem.W.findIn K (.ref K6) "__getattr__" = some none)
    (nb5 : PySem.W.findIn K (.ref K6) "label" = some none)
    (iN5 : PySem.W.findIn K (.ref K6) "__init__" = some (some (.ref g5)))
    (tI5 : PySem.W.typeIn K (.ref g5) = some (.type "function"))
    (lI5 : K.lookup g5 = some ⟨goc5, god5, .func (PySem.W.fnOf "__init__" "Duplicate.__init__" (L2.defArgs (clm 9 0)) (L2.defBody (clm 9 0)) (L2.defScope (clm 9 0)) .none gkV5 gdc5 gpm5 gan5 gcd5 gct5), gsl5⟩)
    (cI5 : PySem.W.codeIn K gcd5 "Duplicate.__init__" = true)
    (kI5 : PySem.W.keepIn K (.ref g5) = true)
    (kC5 : PySem.W.keepIn K (.ref K6) = true)
    (hC5 : PySem.W.hasDictIn K K6 = true)
    (xL6 : K.lookup K7 = some (excClassObj gnm6 gq6 K7 gN6 gbs6 [.ref K0, .type "ValueError", .type "Exception", .type "BaseException", .type "object"] true gsn6 gsub6 gab6 gcol6 gdd6 gma6 gmb6 gmc6 gmd6 gme6 "ValueError.__new__"))
    (sa6 : PySem.W.findIn K (.ref K7) "__setattr__" = some (some (.builtin "object.__setattr__")))
    (gax6 : PySem.W.findIn K (.ref K7) "__getattribute__" = some (some (.builtin "BaseException.__getattribute__")))
    (gg6 : PySem.W.findIn K (.ref K7) "__getattr__" = some none)
    (nb6 : PySem.W.findIn K (.ref K7) "value" = some none)
    (iN6 : PySem.W.findIn K (.ref K7) "__init__" = some (some (.ref g6)))
    (tI6 : PySem.W.typeIn K (.ref g6) = some (.type "function"))
    (lI6 : K.lookup g6 = some ⟨goc6, god6, .func (PySem.W.fnOf "__init__" "NotScheme.__init__" (L2.defArgs (clm 10 0)) (L2.defBody (clm 10 0)) (L2.defScope (clm 10 0)) .none gkV6 gdc6 gpm6 gan6 gcd6 gct6), gsl6⟩)
    (cI6 : PySem.W.codeIn K gcd6 "NotScheme.__init__" = true)
    (kI6 : PySem.W.keepIn K (.ref g6) = true)
    (kC6 : PySem.W.keepIn K (.ref K7) = true)
    (hC6 : PySem.W.hasDictIn K K7 = true)
    (xL7 : K.lookup K8 = some (excClassObj gnm7 gq7 K8 gN7 gbs7 [.ref K0, .type "ValueError", .type "Exception", .type "BaseException", .type "object"] true gsn7 gsub7 gab7 gcol7 gdd7 gma7 gmb7 gmc7 gmd7 gme7 "ValueError.__new__"))
    (sa7 : PySem.W.findIn K (.ref K8) "__setattr__" = some (some (.builtin "object.__setattr__")))
    (gax7 : PySem.W.findIn K (.ref K8) "__getattribute__" = some (some (.builtin "BaseException.__getattribute__")))
    (gg7 : PySem.W.findIn K (.ref K8) "__getattr__" = some none)
    (nb7 : PySem.W.findIn K (.ref K8) "value" = some none)
    (iN7 : PySem.W.findIn K (.ref K8) "__init__" = some (some (.ref g7)))
    (tI7 : PySem.W.typeIn K (.ref g7) = some (.type "function"))
    (lI7 : K.lookup g7 = some ⟨goc7, god7, .func (PySem.W.fnOf "__init__" "InvalidStep.__init__" (L2.defArgs (clm 11 0)) (L2.defBody (clm 11 0)) (L2.defScope (clm 11 0)) .none gkV7 gdc7 gpm7 gan7 gcd7 gct7), gsl7⟩)
    (cI7 : PySem.W.codeIn K gcd7 "InvalidStep.__init__" = true)
    (kI7 : PySem.W.keepIn K (.ref g7) = true)
    (kC7 : PySem.W.keepIn K (.ref K8) = true)
    (hC7 : PySem.W.hasDictIn K K8 = true)
    (xL8 : K.lookup K9 = some (excClassObj gnm8 gq8 K9 gN8 gbs8 [.ref K0, .type "ValueError", .type "Exception", .type "BaseException", .type "object"] true gsn8 gsub8 gab8 gcol8 gdd8 gma8 gmb8 gmc8 gmd8 gme8 "ValueError.__new__"))
    (sa8 : PySem.W.findIn K (.ref K9) "__setattr__" = some (some (.builtin "object.__setattr__")))
    (gax8 : PySem.W.findIn K (.ref K9) "__getattribute__" = some (some (.builtin "BaseException.__getattribute__")))
    (gg8 : PySem.W.findIn K (.ref K9) "__getattr__" = some none)
    (nb8 : PySem.W.findIn K (.ref K9) "value" = some none)
    (iN8 : PySem.W.findIn K (.ref K9) "__init__" = some (some (.ref g8)))
    (tI8 : PySem.W.typeIn K (.ref g8) = some (.type "function"))
    (lI8 : K.lookup g8 = some ⟨goc8, god8, .func (PySem.W.fnOf "__init__" "InvalidEdits.__init__" (L2.defArgs (clm 12 0)) (L2.defBody (clm 12 0)) (L2.defScope (clm 12 0)) .none gkV8 gdc8 gpm8 gan8 gcd8 gct8), gsl8⟩)
    (cI8 : PySem.W.codeIn K gcd8 "InvalidEdits.__init__" = true)
    (kI8 : PySem.W.keepIn K (.ref g8) = true)
    (kC8 : PySem.W.keepIn K (.ref K9) = true)
    (hC8 : PySem.W.hasDictIn K K9 = true)
    (gl0x : PySem.W.nsIn K mainGlobals "ADD" = some (some (.str "add" t0)))
    (gl1x : PySem.W.nsIn K mainGlobals "DROP" = some (some (.str "drop" t1)))
    (gl2x : PySem.W.nsIn K mainGlobals "KEEP" = some (some (.str "keep" t2)))
    (gl3x : PySem.W.nsIn K mainGlobals "LETTERS" = some (some (.str "abcdefghijklmnopqrstuvwxyz" t3)))
    (gl4x : PySem.W.nsIn K mainGlobals "LONGEST_NAME" = some (some (.int (8) t4)))
    (gl5x : PySem.W.nsIn K mainGlobals "LONGEST_WORD" = some (some (.int (6) t5)))
    (gl6x : PySem.W.nsIn K mainGlobals "MOST_COSTS" = some (some (.int (4) t6)))
    (gl7x : PySem.W.nsIn K mainGlobals "MOST_LETTERS" = some (some (.int (26) t7)))
    (gl8x : PySem.W.nsIn K mainGlobals "SWAP" = some (some (.str "swap" t8)))
    (gl9x : PySem.W.nsIn K mainGlobals "TURN" = some (some (.str "turn" t9)))
    (hb : ∀ x ∈ bltNames, PySem.W.nsIn K mainGlobals x = some none) :
    ∃ fd : FuncData, (∀ (s : Shared) (v : Value), BindsTo s fd ⟨[v], []⟩ [("_law_script", v)]) ∧ ∀ base : Heap, K.In base → base.Ns mainGlobals mg → ∃ G : Pg, G.P = P ∧ G.w = w ∧ G.K = K ∧ G.mg = mg ∧ G.base = base ∧ G.i0 = [] ∧ FnG G 16 fa fd ["_law_script"] (spI G (runF (C 12) d_law) 1) := by
  have e := hfa.symm.trans (PySem.W.mg_of X N a45)
  cases e
  let cs : List (Str × Addr) := [("ChoiceError", K0), ("InvalidPart", K1), ("InvalidWord", K2), ("InvalidName", K3), ("InvalidLetter", K4), ("InvalidGroup", K5), ("Duplicate", K6), ("NotScheme", K7), ("InvalidStep", K8), ("InvalidEdits", K9), ("Scheme", K10)]
  let ads : List (Str × Addr) := [("Scheme.__init__", f0), ("Scheme.checked_groups", f1), ("Scheme.costs", f2), ("Scheme.cost_to_add", f3), ("Scheme.cost_to_drop", f4), ("Scheme.cost_to_turn", f5), ("Scheme.__contains__", f6), ("Scheme.swap_cost", f7), ("Scheme.step_cost", f8)]
  refine ⟨PySem.W.fnOf "law" "law" (L2.defArgs (top 66)) (L2.defBody (top 66)) (L2.defScope (top 66)) .none kV45 dc45 pm45 an45 cd45 ct45, fun s v => .of_eq rfl, fun base _ _ => ⟨⟨P, w, K, mg, base, fun x => cs.lookup x, fun x => ads.lookup x, []⟩, rfl, rfl, rfl, rfl, rfl, rfl, ?_⟩⟩
  refine law_fn (h := h) (st := (top 66)) (D := D) (gl := gl) (isA := fun x y => isT.lookup (x, y)) (exs := exs) (kx := kx) (cls := cls) (fs := fs) (d := d_law) (k := 12) X N hb (fun p hp => ?_) (fun k => ?_) ?_ (fun p hp => ?_) l45 c45 k45 c_law
  · simp only [gl, List.mem_cons, List.not_mem_nil, or_false] at hp
    rcases hp with rfl | rfl | rfl | rfl | rfl | rfl | rfl | rfl | rfl | rfl
    · exact gl_str (h := h) X N gl0x
    · exact gl_str (h := h) X N gl1x
    · exact gl_str (h := h) X N gl2x
    · exact gl_str (h := h) X N gl3x
    · exact gl_int (h := h) X N gl4x
    · exact gl_int (h := h) X N gl5x
    · exact gl_int (h := h) X N gl6x
    · exact gl_int (h := h) X N gl7x
    · exact gl_str (h := h) X N gl8x
    · exact gl_str (h := h) X N gl9x
  · refine ec_of (h := h) (cs := cs) (ps := isT) X N (by omega) (by cases k <;> rfl) (fun x y => by cases k <;> rfl) (fun x => rfl) (fun p hp => ?_) (fun p hp => ?_) (fun q hq => ?_)
    · simp only [cs, List.mem_cons, List.not_mem_nil, or_false] at hp
      rcases hp with rfl | rfl | rfl | rfl | rfl | rfl | rfl | rfl | rfl | rfl | rfl
      · exact aC0
      · exact aC1
      · exact aC2
      · exact aC3
      · exact aC4
      · exact aC5
      · exact aC6
      · exact aC7
      · exact aC8
      · exact aC9
      · exact aC10
    · simp only [exs, List.mem_cons, List.not_mem_nil, or_false] at hp
      rcases hp with rfl | rfl | rfl | rfl | rfl | rfl | rfl | rfl | rfl
      · obtain ⟨fd, z⟩ := exC_of (G := ⟨P, w, K, mg, base, fun x => cs.lookup x, fun x => ads.lookup x, []⟩) (h := h) (st := clm 4 0) (b := "ChoiceError") (pv := "value") (f := "value") (x := "InvalidPart") X N rfl aC1 aC0 ⟨rd0, ga0, in0⟩ xL0 rfl sa0 gax0 gg0 nb0 iN0 tI0 lI0 cI0 kI0 kC0 eC1 tC1 hC0 (fun _ _ _ _ _ _ us hl => match us, hl with | [_, _], _ => rfl) i_InvalidPart
        exact ⟨_, _, fd, _, z⟩
      · obtain ⟨fd, z⟩ := exC_of (G := ⟨P, w, K, mg, base, fun x => cs.lookup x, fun x => ads.lookup x, []⟩) (h := h) (st := clm 5 0) (b := "ChoiceError") (pv := "value") (f := "value") (x := "InvalidWord") X N rfl aC2 aC0 ⟨rd0, ga0, in0⟩ xL1 rfl sa1 gax1 gg1 nb1 iN1 tI1 lI1 cI1 kI1 kC1 eC2 tC2 hC1 (fun _ _ _ _ _ _ us hl => match us, hl with | [_, _], _ => rfl) i_InvalidWord
        exact ⟨_, _, fd, _, z⟩
      · obtain ⟨fd, z⟩ := exC_of (G := ⟨P, w, K, mg, base, fun x => cs.lookup x, fun x => ads.lookup x, []⟩) (h := h) (st := clm 6 0) (b := "ChoiceError") (pv := "value") (f := "value") (x := "InvalidName") X N rfl aC3 aC0 ⟨rd0, ga0, in0⟩ xL2 rfl sa2 gax2 gg2 nb2 iN2 tI2 lI2 cI2 kI2 kC2 eC3 tC3 hC2 (fun _ _ _ _ _ _ us hl => match us, hl with | [_, _], _ => rfl) i_InvalidName
        exact ⟨_, _, fd, _, z⟩
      · obtain ⟨fd, z⟩ := exC_of (G := ⟨P, w, K, mg, base, fun x => cs.lookup x, fun x => ads.lookup x, []⟩) (h := h) (st := clm 7 0) (b := "ChoiceError") (pv := "value") (f := "value") (x := "InvalidLetter") X N rfl aC4 aC0 ⟨rd0, ga0, in0⟩ xL3 rfl sa3 gax3 gg3 nb3 iN3 tI3 lI3 cI3 kI3 kC3 eC4 tC4 hC3 (fun _ _ _ _ _ _ us hl => match us, hl with | [_, _], _ => rfl) i_InvalidLetter
        exact ⟨_, _, fd, _, z⟩
      · obtain ⟨fd, z⟩ := exC_of (G := ⟨P, w, K, mg, base, fun x => cs.lookup x, fun x => ads.lookup x, []⟩) (h := h) (st := clm 8 0) (b := "ChoiceError") (pv := "value") (f := "value") (x := "InvalidGroup") X N rfl aC5 aC0 ⟨rd0, ga0, in0⟩ xL4 rfl sa4 gax4 gg4 nb4 iN4 tI4 lI4 cI4 kI4 kC4 eC5 tC5 hC4 (fun _ _ _ _ _ _ us hl => match us, hl with | [_, _], _ => rfl) i_InvalidGroup
        exact ⟨_, _, fd, _, z⟩
      · obtain ⟨fd, z⟩ := exC_of (G := ⟨P, w, K, mg, base, fun x => cs.lookup x, fun x => ads.lookup x, []⟩) (h := h) (st := clm 9 0) (b := "ChoiceError") (pv := "label") (f := "label") (x := "Duplicate") X N rfl aC6 aC0 ⟨rd0, ga0, in0⟩ xL5 rfl sa5 gax5 gg5 nb5 iN5 tI5 lI5 cI5 kI5 kC5 eC6 tC6 hC5 (fun _ _ _ _ _ _ us hl => match us, hl with | [_, _], _ => rfl) i_Duplicate
        exact ⟨_, _, fd, _, z⟩
      · obtain ⟨fd, z⟩ := exC_of (G := ⟨P, w, K, mg, base, fun x => cs.lookup x, fun x => ads.lookup x, []⟩) (h := h) (st := clm 10 0) (b := "ChoiceError") (pv := "value") (f := "value") (x := "NotScheme") X N rfl aC7 aC0 ⟨rd0, ga0, in0⟩ xL6 rfl sa6 gax6 gg6 nb6 iN6 tI6 lI6 cI6 kI6 kC6 eC7 tC7 hC6 (fun _ _ _ _ _ _ us hl => match us, hl with | [_, _], _ => rfl) i_NotScheme
        exact ⟨_, _, fd, _, z⟩
      · obtain ⟨fd, z⟩ := exC_of (G := ⟨P, w, K, mg, base, fun x => cs.lookup x, fun x => ads.lookup x, []⟩) (h := h) (st := clm 11 0) (b := "ChoiceError") (pv := "value") (f := "value") (x := "InvalidStep") X N rfl aC8 aC0 ⟨rd0, ga0, in0⟩ xL7 rfl sa7 gax7 gg7 nb7 iN7 tI7 lI7 cI7 kI7 kC7 eC8 tC8 hC7 (fun _ _ _ _ _ _ us hl => match us, hl with | [_, _], _ => rfl) i_InvalidStep
        exact ⟨_, _, fd, _, z⟩
      · obtain ⟨fd, z⟩ := exC_of (G := ⟨P, w, K, mg, base, fun x => cs.lookup x, fun x => ads.lookup x, []⟩) (h := h) (st := clm 12 0) (b := "ChoiceError") (pv := "value") (f := "value") (x := "InvalidEdits") X N rfl aC9 aC0 ⟨rd0, ga0, in0⟩ xL8 rfl sa8 gax8 gg8 nb8 iN8 tI8 lI8 cI8 kI8 kC8 eC9 tC9 hC8 (fun _ _ _ _ _ _ us hl => match us, hl with | [_, _], _ => rfl) i_InvalidEdits
        exact ⟨_, _, fd, _, z⟩
    · simp only [isT, List.mem_cons, List.not_mem_nil, or_false] at hq
      all_goals exact absurd hq (by simp)
  · have Cl10 : L2.Cls K K10 := cls_of yA10 yB10 yC10 yD10
    have Ic10 : InsC K K10 := ⟨Cl10, yE10, yF10, yG10, yH10, fun T hT => by
      simp only [tyNames, List.mem_cons, List.not_mem_nil, or_false] at hT
      rcases hT with rfl | rfl | rfl | rfl | rfl | rfl
      · exact kit_rt yI10int (by decide +kernel)
      · exact kit_rt yI10bool (by decide +kernel)
      · exact kit_rt yI10str (by decide +kernel)
      · exact kit_rt yI10list (by decide +kernel)
      · exact kit_rt yI10tuple (by decide +kernel)
      · exact kit_rt yI10dict (by decide +kernel)⟩
    have ck10 : cs.lookup ("Scheme" : Str) = some K10 := rfl
    refine ⟨fun p hp => ?_, fun f hf => ?_, fun p hp Ca e => ?_, fun p hp Ca e => ?_, fun c hc Ca e => ?_, fun c hc => ?_, fun p hp Ca Ka e1 e2 => ?_, fun p hp Ca e => ?_, fun p hp => ?_⟩
    · simp only [kx, List.mem_cons, List.not_mem_nil, or_false] at hp
      rcases hp with rfl | rfl | rfl | rfl | rfl | rfl | rfl | rfl | rfl
      · exact ⟨d_Scheme_cost_to_add, rfl, metOk_of (G := ⟨P, w, K, mg, base, fun x => cs.lookup x, fun x => ads.lookup x, []⟩) rfl l3 c3 k3 (frm_0 (is := [0]) (n := 1) (ks := []) (ps := ["self"]) fun us ws l1 l2 => match us, l1, ws, l2 with | [_], _, [], _ => rfl) c_Scheme_cost_to_add⟩
      · exact ⟨d_Scheme_cost_to_drop, rfl, metOk_of (G := ⟨P, w, K, mg, base, fun x => cs.lookup x, fun x => ads.lookup x, []⟩) rfl l4 c4 k4 (frm_0 (is := [0]) (n := 1) (ks := []) (ps := ["self"]) fun us ws l1 l2 => match us, l1, ws, l2 with | [_], _, [], _ => rfl) c_Scheme_cost_to_drop⟩
      · exact ⟨d_Scheme_cost_to_turn, rfl, metOk_of (G := ⟨P, w, K, mg, base, fun x => cs.lookup x, fun x => ads.lookup x, []⟩) rfl l5 c5 k5 (frm_0 (is := [0]) (n := 1) (ks := []) (ps := ["self"]) fun us ws l1 l2 => match us, l1, ws, l2 with | [_], _, [], _ => rfl) c_Scheme_cost_to_turn⟩
      · exact ⟨d_Scheme_costs, rfl, metOk_of (G := ⟨P, w, K, mg, base, fun x => cs.lookup x, fun x => ads.lookup x, []⟩) rfl l2 c2 k2 (frm_0 (is := [0]) (n := 1) (ks := []) (ps := ["self"]) fun us ws l1 l2 => match us, l1, ws, l2 with | [_], _, [], _ => rfl) c_Scheme_costs⟩
      · exact ⟨d_Scheme___contains__, rfl, metOk_of (G := ⟨P, w, K, mg, base, fun x => cs.lookup x, fun x => ads.lookup x, []⟩) rfl l6 c6 k6 (frm_0 (is := [0, 1]) (n := 2) (ks := []) (ps := ["self", "value"]) fun us ws l1 l2 => match us, l1, ws, l2 with | [_, _], _, [], _ => rfl) c_Scheme___contains__⟩
      · exact ⟨d_Scheme_checked_groups, rfl, metOk_of (G := ⟨P, w, K, mg, base, fun x => cs.lookup x, fun x => ads.lookup x, []⟩) rfl l1 c1 k1 (frm_0 (is := [0, 1]) (n := 2) (ks := []) (ps := ["self", "groups"]) fun us ws l1 l2 => match us, l1, ws, l2 with | [_, _], _, [], _ => rfl) c_Scheme_checked_groups⟩
      · exact ⟨d_Scheme_step_cost, rfl, metOk_of (G := ⟨P, w, K, mg, base, fun x => cs.lookup x, fun x => ads.lookup x, []⟩) rfl l8 c8 k8 (frm_d (n := 3) (ks := []) (ps := ["self", "step", "letter"]) (ar := [Ar.at 0, Ar.at 1, Ar.at 2]) (fun _ => .none) (fun _ => .non) (fun w hw => absurd hw (by simp)) lD8 rfl fun us ws l1 l2 => match us, l1, ws, l2 with | [_, _, _], _, [], _ => ⟨_, rfl, rfl⟩) c_Scheme_step_cost⟩
      · exact ⟨d_Scheme_swap_cost, rfl, metOk_of (G := ⟨P, w, K, mg, base, fun x => cs.lookup x, fun x => ads.lookup x, []⟩) rfl l7 c7 k7 (frm_0 (is := [0, 1, 2]) (n := 3) (ks := []) (ps := ["self", "one", "other"]) fun us ws l1 l2 => match us, l1, ws, l2 with | [_, _, _], _, [], _ => rfl) c_Scheme_swap_cost⟩
      · exact ⟨d_Scheme___init__, rfl, metOk_of (G := ⟨P, w, K, mg, base, fun x => cs.lookup x, fun x => ads.lookup x, []⟩) rfl l0 c0 k0 (frm_0 (is := [0, 1, 2, 3, 4, 5, 6]) (n := 2) (ks := ["add", "drop", "swap", "groups", "turn"]) (ps := ["self", "costs", "add", "drop", "swap", "groups", "turn"]) fun us ws l1 l2 => match us, l1, ws, l2 with | [_, _], _, [_, _, _, _, _], _ => rfl) c_Scheme___init__⟩
    · simp only [kx, List.mem_cons, List.not_mem_nil, or_false] at hf
    · simp only [kx, List.mem_cons, List.not_mem_nil, or_false] at hp
      rcases hp with rfl | rfl | rfl | rfl | rfl
      · have e := ck10.symm.trans e
        cases e
        exact ⟨Cl10, yK0⟩
      · have e := ck10.symm.trans e
        cases e
        exact ⟨Cl10, yK1⟩
      · have e := ck10.symm.trans e
        cases e
        exact ⟨Cl10, yK2⟩
      · have e := ck10.symm.trans e
        cases e
        exact ⟨Cl10, yK3⟩
      · have e := ck10.symm.trans e
        cases e
        exact ⟨Cl10, yK4⟩
    · simp only [kx, List.mem_cons, List.not_mem_nil, or_false] at hp
      rcases hp with rfl | rfl | rfl | rfl
      · have e := ck10.symm.trans e
        cases e
        exact ⟨f6, rfl, Cl10, mA6, mF6, k6⟩
      · have e := ck10.symm.trans e
        cases e
        exact ⟨f1, rfl, Cl10, mA1, mF1, k1⟩
      · have e := ck10.symm.trans e
        cases e
        exact ⟨f8, rfl, Cl10, mA8, mF8, k8⟩
      · have e := ck10.symm.trans e
        cases e
        exact ⟨f7, rfl, Cl10, mA7, mF7, k7⟩
    · simp only [kx, List.mem_cons, List.not_mem_nil, or_false] at hc
      rcases hc with rfl
      · have e := ck10.symm.trans e
        cases e
        exact Ic10
    · simp only [kx, List.mem_cons, List.not_mem_nil, or_false] at hc
      rcases hc with rfl
      · exact ⟨K10, ck10, PySem.W.mg_of X N aC10, fun t ht => by
          simp only [List.mem_cons, List.not_mem_nil, or_false] at ht
          rcases ht with rfl | rfl | rfl | rfl | rfl | rfl | rfl
          · exact kit_tr yO10 yP10 yJ10NoneType
          · exact kit_tr yO10 yP10 yJ10bool
          · exact kit_tr yO10 yP10 yJ10int
          · exact kit_tr yO10 yP10 yJ10str
          · exact kit_tr yO10 yP10 yJ10tuple
          · exact kit_tr yO10 yP10 yJ10list
          · exact kit_tr yO10 yP10 yJ10dict⟩
    · simp only [kx, List.mem_cons, List.not_mem_nil, or_false] at hp
      rcases hp with rfl
      · have e1 := ck10.symm.trans e1
        have e2 := ck10.symm.trans e2
        cases e1
        cases e2
        exact ⟨Ic10, kit_self⟩
    · simp only [kx, List.mem_cons, List.not_mem_nil, or_false] at hp
      rcases hp with rfl | rfl | rfl | rfl
      · have e := ck10.symm.trans e
        cases e
        exact ⟨f3, pr0, rfl, Cl10, pA0, pG0, pT0, rs0, pR0⟩
      · have e := ck10.symm.trans e
        cases e
        exact ⟨f4, pr1, rfl, Cl10, pA1, pG1, pT1, rs1, pR1⟩
      · have e := ck10.symm.trans e
        cases e
        exact ⟨f5, pr2, rfl, Cl10, pA2, pG2, pT2, rs2, pR2⟩
      · have e := ck10.symm.trans e
        cases e
        exact ⟨f2, pr3, rfl, Cl10, pA3, pG3, pT3, rs3, pR3⟩
    · simp only [kx, List.mem_cons, List.not_mem_nil, or_false] at hp
      rcases hp with rfl
      · exact ⟨K10, f0, ck10, PySem.W.mg_of X N aC10, rfl, yL10, mA0, mF0, yM10⟩
  · simp only [fs, List.mem_cons, List.not_mem_nil, or_false] at hp
    rcases hp with rfl | rfl | rfl | rfl | rfl | rfl | rfl | rfl | rfl | rfl | rfl | rfl | rfl | rfl | rfl | rfl | rfl | rfl | rfl | rfl | rfl | rfl | rfl | rfl | rfl | rfl | rfl | rfl | rfl | rfl | rfl | rfl | rfl | rfl | rfl | rfl | rfl
    · exact ⟨d__wall, rfl, defOk_of (h := h) (st := (top 0)) X N a9 l9 c9 k9 (fun _ _ _ _ _ _ us hl => match us, hl with | [_], _ => rfl) c__wall⟩
    · exact ⟨d_is_list, rfl, defOk_of (h := h) (st := (top 18)) X N a10 l10 c10 k10 (fun _ _ _ _ _ _ us hl => match us, hl with | [_], _ => rfl) c_is_list⟩
    · exact ⟨d_is_row_words, rfl, defOk_of (h := h) (st := (top 19)) X N a11 l11 c11 k11 (fun _ _ _ _ _ _ us hl => match us, hl with | [_, _], _ => rfl) c_is_row_words⟩
    · exact ⟨d_is_spelled, rfl, defOk_of (h := h) (st := (top 21)) X N a12 l12 c12 k12 (fun _ _ _ _ _ _ us hl => match us, hl with | [_, _, _], _ => rfl) c_is_spelled⟩
    · exact ⟨d_is_word, rfl, defOk_of (h := h) (st := (top 22)) X N a13 l13 c13 k13 (fun _ _ _ _ _ _ us hl => match us, hl with | [_], _ => rfl) c_is_word⟩
    · exact ⟨d_is_name, rfl, defOk_of (h := h) (st := (top 23)) X N a14 l14 c14 k14 (fun _ _ _ _ _ _ us hl => match us, hl with | [_], _ => rfl) c_is_name⟩
    · exact ⟨d_is_letter, rfl, defOk_of (h := h) (st := (top 24)) X N a15 l15 c15 k15 (fun _ _ _ _ _ _ us hl => match us, hl with | [_], _ => rfl) c_is_letter⟩
    · exact ⟨d_checked_costs, rfl, defOk_of (h := h) (st := (top 33)) X N a16 l16 c16 k16 (fun _ _ _ _ _ _ us hl => match us, hl with | [_], _ => rfl) c_checked_costs⟩
    · exact ⟨d_is_step, rfl, defOk_of (h := h) (st := (top 35)) X N a17 l17 c17 k17 (fun _ _ _ _ _ _ us hl => match us, hl with | [_], _ => rfl) c_is_step⟩
    · exact ⟨d_need_scheme, rfl, defOk_of (h := h) (st := (top 36)) X N a18 l18 c18 k18 (fun _ _ _ _ _ _ us hl => match us, hl with | [_], _ => rfl) c_need_scheme⟩
    · exact ⟨d_need_word, rfl, defOk_of (h := h) (st := (top 38)) X N a19 l19 c19 k19 (fun _ _ _ _ _ _ us hl => match us, hl with | [_], _ => rfl) c_need_word⟩
    · exact ⟨d_step_text, rfl, defOk_of (h := h) (st := (top 39)) X N a20 l20 c20 k20 (fun _ _ _ _ _ _ us hl => match us, hl with | [_, _, _, _], _ => rfl) c_step_text⟩
    · exact ⟨d_read_row, rfl, defOk_of (h := h) (st := (top 40)) X N a21 l21 c21 k21 (fun _ _ _ _ _ _ us hl => match us, hl with | [_, _, _], _ => rfl) c_read_row⟩
    · exact ⟨d_is_row_rows, rfl, defOk_of (h := h) (st := (top 41)) X N a22 l22 c22 k22 (fun _ _ _ _ _ _ us hl => match us, hl with | [_, _, _], _ => rfl) c_is_row_rows⟩
    · exact ⟨d_need_row, rfl, defOk_of (h := h) (st := (top 43)) X N a23 l23 c23 k23 (fun _ _ _ _ _ _ us hl => match us, hl with | [_, _, _], _ => rfl) c_need_row⟩
    · exact ⟨d_written, rfl, defOk_of (h := h) (st := (top 44)) X N a24 l24 c24 k24 (fun _ _ _ _ _ _ us hl => match us, hl with | [_, _, _], _ => rfl) c_written⟩
    · exact ⟨d_met, rfl, defOk_of (h := h) (st := (top 45)) X N a25 l25 c25 k25 (fun _ _ _ _ _ _ us hl => match us, hl with | [_, _], _ => rfl) c_met⟩
    · exact ⟨d_counted, rfl, defOk_of (h := h) (st := (top 46)) X N a26 l26 c26 k26 (fun _ _ _ _ _ _ us hl => match us, hl with | [_, _, _, _], _ => rfl) c_counted⟩
    · exact ⟨d_counts_of, rfl, defOk_of (h := h) (st := (top 47)) X N a27 l27 c27 k27 (fun _ _ _ _ _ _ us hl => match us, hl with | [_, _, _], _ => rfl) c_counts_of⟩
    · exact ⟨d_turned_back, rfl, defOk_of (h := h) (st := (top 48)) X N a28 l28 c28 k28 (fun _ _ _ _ _ _ us hl => match us, hl with | [_, _, _], _ => rfl) c_turned_back⟩
    · exact ⟨d_mirrored, rfl, defOk_of (h := h) (st := (top 49)) X N a29 l29 c29 k29 (fun _ _ _ _ _ _ us hl => match us, hl with | [_, _, _], _ => rfl) c_mirrored⟩
    · exact ⟨d__law_cell, rfl, defOk_of (h := h) (st := (top 51)) X N a30 l30 c30 k30 (fun _ _ _ _ _ _ us hl => match us, hl with | [_, _], _ => rfl) c__law_cell⟩
    · exact ⟨d__law_bag, rfl, defOk_of (h := h) (st := (top 52)) X N a31 l31 c31 k31 (fun _ _ _ _ _ _ us hl => match us, hl with | [_], _ => rfl) c__law_bag⟩
    · exact ⟨d__law_take, rfl, defOk_of (h := h) (st := (top 53)) X N a32 l32 c32 k32 (fun _ _ _ _ _ _ us hl => match us, hl with | [_, _], _ => rfl) c__law_take⟩
    · exact ⟨d__law_word, rfl, defOk_of (h := h) (st := (top 54)) X N a33 l33 c33 k33 (fun _ _ _ _ _ _ us hl => match us, hl with | [_, _, _], _ => rfl) c__law_word⟩
    · exact ⟨d__law_letters, rfl, defOk_of (h := h) (st := (top 55)) X N a34 l34 c34 k34 (fun _ _ _ _ _ _ us hl => match us, hl with | [_], _ => rfl) c__law_letters⟩
    · exact ⟨d__law_model, rfl, defOk_of (h := h) (st := (top 56)) X N a35 l35 c35 k35 (fun _ _ _ _ _ _ us hl => match us, hl with | [_, _], _ => rfl) c__law_model⟩
    · exact ⟨d__law_made, rfl, defOk_of (h := h) (st := (top 57)) X N a36 l36 c36 k36 (fun _ _ _ _ _ _ us hl => match us, hl with | [_], _ => rfl) c__law_made⟩
    · exact ⟨d__law_swap_name, rfl, defOk_of (h := h) (st := (top 58)) X N a37 l37 c37 k37 (fun _ _ _ _ _ _ us hl => match us, hl with | [_, _, _], _ => rfl) c__law_swap_name⟩
    · exact ⟨d__law_one, rfl, defOk_of (h := h) (st := (top 59)) X N a38 l38 c38 k38 (fun _ _ _ _ _ _ us hl => match us, hl with | [_, _], _ => rfl) c__law_one⟩
    · exact ⟨d__law_plus, rfl, defOk_of (h := h) (st := (top 60)) X N a39 l39 c39 k39 (fun _ _ _ _ _ _ us hl => match us, hl with | [_, _], _ => rfl) c__law_plus⟩
    · exact ⟨d__law_read, rfl, defOk_of (h := h) (st := (top 61)) X N a40 l40 c40 k40 (fun _ _ _ _ _ _ us hl => match us, hl with | [_, _, _], _ => rfl) c__law_read⟩
    · exact ⟨d__law_is_step, rfl, defOk_of (h := h) (st := (top 62)) X N a41 l41 c41 k41 (fun _ _ _ _ _ _ us hl => match us, hl with | [_], _ => rfl) c__law_is_step⟩
    · exact ⟨d__law_row, rfl, defOk_of (h := h) (st := (top 63)) X N a42 l42 c42 k42 (fun _ _ _ _ _ _ us hl => match us, hl with | [_, _, _, _], _ => rfl) c__law_row⟩
    · exact ⟨d__law_back, rfl, defOk_of (h := h) (st := (top 64)) X N a43 l43 c43 k43 (fun _ _ _ _ _ _ us hl => match us, hl with | [_, _], _ => rfl) c__law_back⟩
    · exact ⟨d__law_right, rfl, defOk_of (h := h) (st := (top 65)) X N a44 l44 c44 k44 (fun _ _ _ _ _ _ us hl => match us, hl with | [_, _, _, _], _ => rfl) c__law_right⟩
    · exact ⟨d_law, rfl, defOk_of (h := h) (st := (top 66)) X N a45 l45 c45 k45 (fun _ _ _ _ _ _ us hl => match us, hl with | [_], _ => rfl) c_law⟩
end L08
set_option maxRecDepth 100000
set_option maxHeartbeats 4000000
namespace L08
open PySem PySem.Spec PyProof.Rows MP
/-! ### letters, words, names -/
abbrev ABC : Str := "abcdefghijklmnopqrstuvwxyz"
/-- a small letter -/
def sm (c : Nat) : Bool := !(Builtin.Str.occurrences ABC ⟨#[c]⟩ 0 ABC.length 1).isEmpty
theorem in_abc (h : List O) (c : Nat) : inO h (.inr (T [c])) (.inr (.str ABC)) = some (sm c) := rfl
theorem all_bl' {α : Type} (bs : List α) (f : α → Bool) (h : List O) : bltL "all" (bs.map fun w => .bl (f w)) h = .ok (.bl (bs.all f)) h := by
  have e : unBls (bs.map fun w => W.bl (f w)) = some (bs.map f) := by
    induction bs with
    | nil => rfl
    | cons b bs ih => rw [List.map_cons, unBls, ih]; rfl
  unfold bltL
  rw [if_pos rfl, e]
  simp [List.all_map]
theorem any_bl' {α : Type} (bs : List α) (f : α → Bool) (h : List O) : bltL "any" (bs.map fun w => .bl (f w)) h = .ok (.bl (bs.any f)) h := by
  have e : unBls (bs.map fun w => W.bl (f w)) = some (bs.map f) := by
    induction bs with
    | nil => rfl
    | cons b bs ih => rw [List.map_cons, unBls, ih]; rfl
  unfold bltL
  rw [if_neg (by decide), if_pos rfl, e]
  simp [List.any_map]
theorem list_nr (k : Nat) {w : W} (h : List O) (e : nr w = true) : (C (k + 1)).cn.call "is_list" [w] h = .ok (.bl (its? w).isSome) h := by
  rw [call_is_list]
  have e2 : (["list", "tuple"].any fun T => isiB (tyN w) T) = (its? w).isSome := by
    cases w <;> first | (simp [tyN, its?, isiB]; done) | exact absurd e Bool.false_ne_true
  simp -dsimp [runF, d_is_list, startL, isx_nr h e, e2]
theorem list_H (k : Nat) {w : W} (h : List O) (e : nrH h w = true) : (C (k + 1)).cn.call "is_list" [w] h = .ok (.bl (itsH h w).isSome) h := by
  rw [call_is_list]
  simp -dsimp [runF, d_is_list, startL, isxH e]
theorem spelled_T (k : Nat) (l : List Nat) (lo hi : Nat) (h : List O) (hl : l.length ≤ 900) : (C (k + 1)).cn.call "is_spelled" [T l, .int lo, .int hi] h = .ok (.bl (decide (lo ≤ l.length ∧ l.length ≤ hi) && l.all sm)) h := by
  rw [call_is_spelled]
  have lc : lcLoop (lcBody (C k).cn (.cmp .In (.var 4) (.glob "LETTERS")) (.name 4) .none [some (T l), some (.int lo), some (.int hi), none, none]) [] 0 (chars (S l)) h = .ok (l.map fun c => .bl (sm c)) h := by
    rw [S_chars, lc_mapA (g := fun c => .bl (sm c)) (fun c hc => by simp -dsimp [lcBody, in_abc, -MP.in_str]) (by omega)]
  have e1 := len_T h (a := l) (by omega)
  by_cases h1 : lo ≤ l.length
  · by_cases h2 : l.length ≤ hi
    · simp -dsimp [runF, d_is_spelled, startL, isx_str, e1, h1, h2, wipeL, lc, all_bl']
    · simp -dsimp [runF, d_is_spelled, startL, isx_str, e1, h1, h2]
  · simp -dsimp [runF, d_is_spelled, startL, isx_str, e1, h1]
theorem spelled_no (k : Nat) {w : W} (lo hi : Int) (h : List O) (e : nr w = true) (es : ∀ x, w ≠ .str x) : (C (k + 1)).cn.call "is_spelled" [w, .int lo, .int hi] h = .ok (.bl false) h := by
  rw [call_is_spelled]
  have e2 : (["str"].any fun T => isiB (tyN w) T) = false := by
    cases w <;> first | (simp [tyN, isiB]; done) | exact absurd e Bool.false_ne_true | exact absurd rfl (es _)
  simp -dsimp [runF, d_is_spelled, startL, isx_nr h e, e2]
theorem word_T (k : Nat) (l : List Nat) (h : List O) (hl : l.length ≤ 900) : (C (k + 2)).cn.call "is_word" [T l] h = .ok (.bl (decide (l.length ≤ 6) && l.all sm)) h := by
  have e := spelled_T k l 0 6 h hl
  rw [call_is_word]
  simp -dsimp at e
  simp -dsimp [runF, d_is_word, startL, e]
theorem name_T (k : Nat) (l : List Nat) (h : List O) (hl : l.length ≤ 900) : (C (k + 2)).cn.call "is_name" [T l] h = .ok (.bl (decide (1 ≤ l.length ∧ l.length ≤ 8) && l.all sm)) h := by
  have e := spelled_T k l 1 8 h hl
  rw [call_is_name]
  simp -dsimp at e
  simp -dsimp [runF, d_is_name, startL, e]
/-- the letter that a value is -/
def letOf (w : W) : Option Nat := match w with
  | .str x => (match x.cps.toList with
    | [c] => if sm c = true then some c else none
    | _ => none)
  | _ => none
theorem letOf_T (l : List Nat) : letOf (T l) = (match l with
    | [c] => if sm c = true then some c else none
    | _ => none) := rfl
/-- a value of which kinds are asked: no object of the small heap, no long text -/
def okI : W → Bool
  | .ref _ => false
  | .str x => decide (x.length ≤ 900)
  | _ => true
theorem okI_nr {w : W} (h : okI w = true) : nr w = true := by
  cases w <;> first | rfl | exact absurd h Bool.false_ne_true
theorem letter_ok (k : Nat) (w : W) (h : List O) (hw : okI w = true) : (C (k + 2)).cn.call "is_letter" [w] h = .ok (.bl (letOf w).isSome) h := by
  rw [call_is_letter]
  by_cases hs : ∃ x, w = .str x
  · obtain ⟨x, rfl⟩ := hs
    have hl : x.cps.toList.length ≤ 900 := by
      exact of_decide_eq_true (show decide (x.length ≤ 900) = true from hw)
    have e := spelled_T k x.cps.toList 1 1 h hl
    rw [← S_eta x]
    simp -dsimp at e
    have e2 : (decide (1 ≤ x.cps.toList.length ∧ x.cps.toList.length ≤ 1) && x.cps.toList.all sm) = (letOf (T x.cps.toList)).isSome := by
      rw [letOf_T]
      rcases x.cps.toList with _ | ⟨c, _ | ⟨d, r⟩⟩
      · rfl
      · cases hc : sm c <;> simp [hc]
      · simp
    simp -dsimp at e2
    simp -dsimp [runF, d_is_letter, startL, e, e2]
  · have e := spelled_no k (w := w) 1 1 h (okI_nr hw) (fun x z => hs ⟨x, z⟩)
    have e2 : letOf w = none := by
      cases w <;> first | rfl | exact absurd ⟨_, rfl⟩ hs
    simp -dsimp [runF, d_is_letter, startL, e, e2]
/-! ### steps -/
inductive Stp where
  | keep | drop | turn | add (c : Nat) | swap (c : Nat)
  deriving DecidableEq
def stepOf (w : W) : Option Stp := match its? w with
  | some [.str x] => if x = "keep" then some .keep else if x = "drop" then some .drop else if x = "turn" then some .turn else none
  | some [.str x, y] => (letOf y).bind fun c => if x = "add" then some (.add c) else if x = "swap" then some (.swap c) else none
  | _ => none
/-- a value that may stand as a step -/
def okW (w : W) : Bool := match its? w with
  | some ws => ws.all okI && decide (ws.length ≤ 900)
  | none => okI w
theorem okW_nr {w : W} (h : okW w = true) : nr w = true := by
  unfold okW at h
  cases e : its? w with
  | some ws => exact nr_its e
  | none => rw [e] at h; exact okI_nr h
theorem is_step_ok (k : Nat) (w : W) (h : List O) (hw : okW w = true) : (C (k + 3)).cn.call "is_step" [w] h = .ok (.bl (stepOf w).isSome) h := by
  rw [call_is_step]
  have el := list_nr (k + 1) h (okW_nr hw)
  cases e : its? w with
  | none =>
    rw [e] at el
    have e2 : stepOf w = none := by unfold stepOf; rw [e]
    simp -dsimp [runF, d_is_step, startL, el, e2]
  | some ws =>
    rw [e] at el
    have hk : (ws.all okI && decide (ws.length ≤ 900)) = true := by
      have z := hw
      unfold okW at z
      rw [e] at z
      exact z
    rw [Bool.and_eq_true, decide_eq_true_eq] at hk
    have en := len_its h e
    cases ws with
    | nil =>
      have e2 : stepOf w = none := by unfold stepOf; rw [e]
      simp -dsimp [runF, d_is_step, startL, el, e2, en]
    | cons x r =>
      have e0 : subW w (.int 0) h = .ok x h := sub_its (i := 0) h e rfl
      have hx : okI x = true := by
        have := hk.1
        rw [List.all_cons, Bool.and_eq_true] at this
        exact this.1
      have nl : ((r.length : Int) + 1 == 0) = false := by rw [beq_eq_false_iff_ne]; omega
      by_cases hs : ∃ s, x = .str s
      · obtain ⟨s, rfl⟩ := hs
        have i3 : inO h (.inr (.str s)) (.inl [.str "keep", .str "drop", .str "turn"]) = some (decide (s ∈ (["keep", "drop", "turn"] : List Str))) := in_strs (ys := ["keep", "drop", "turn"])
        have i2 : inO h (.inr (.str s)) (.inl [.str "add", .str "swap"]) = some (decide (s ∈ (["add", "swap"] : List Str))) := in_strs (ys := ["add", "swap"])
        by_cases h3 : s ∈ (["keep", "drop", "turn"] : List Str)
        · have e2 : (stepOf w).isSome = ((r.length : Int) + 1 == 1) := by
            unfold stepOf
            rw [e]
            have na : s ≠ "add" := by rintro rfl; revert h3; decide
            have ns : s ≠ "swap" := by rintro rfl; revert h3; decide
            rcases r with _ | ⟨y, _ | ⟨z, r⟩⟩
            · simp only [List.mem_cons, List.not_mem_nil, or_false] at h3
              rcases h3 with rfl | rfl | rfl <;> rfl
            · simp [na, ns]
            · symm
              rw [Option.isSome_none, beq_eq_false_iff_ne]
              simp only [List.length_cons]
              omega
          simp -dsimp [runF, d_is_step, startL, el, e2, en, e0, isx_str, nl, i3, h3, sz, -MP.in_str]
        · by_cases h2 : s ∈ (["add", "swap"] : List Str)
          · rcases r with _ | ⟨y, _ | ⟨z, r⟩⟩
            · have e2 : stepOf w = none := by
                unfold stepOf
                rw [e]
                simp only [List.mem_cons, List.not_mem_nil, or_false, not_or] at h3
                simp [h3]
              simp -dsimp [runF, d_is_step, startL, el, e2, en, e0, isx_str, i3, h3, i2, h2, sz, -MP.in_str]
            · have hy : okI y = true := by
                have := hk.1
                simp only [List.all_cons, Bool.and_eq_true] at this
                exact this.2.1
              have e1 : subW w (.int 1) h = .ok y h := sub_its (i := 1) h e rfl
              have e2 : (stepOf w).isSome = (letOf y).isSome := by
                unfold stepOf
                rw [e]
                dsimp only
                simp only [List.mem_cons, List.not_mem_nil, or_false] at h2
                cases letOf y with
                | none => rfl
                | some c => rcases h2 with rfl | rfl <;> rfl
              have ey := letter_ok k y h hy
              simp -dsimp [runF, d_is_step, startL, el, e2, en, e0, e1, ey, isx_str, i3, h3, i2, h2, sz, -MP.in_str]
            · have e2 : stepOf w = none := by unfold stepOf; rw [e]
              have n2 : ((r.length : Int) + 1 + 1 + 1 == 2) = false := by rw [beq_eq_false_iff_ne]; omega
              have n3 : ((r.length : Int) + 1 + 1 + 1 == 0) = false := by rw [beq_eq_false_iff_ne]; omega
              simp -dsimp [runF, d_is_step, startL, el, e2, en, e0, isx_str, i3, h3, i2, h2, sz, n2, n3, -MP.in_str]
          · have e2 : stepOf w = none := by
              unfold stepOf
              rw [e]
              simp only [List.mem_cons, List.not_mem_nil, or_false, not_or] at h3 h2
              rcases r with _ | ⟨y, _ | ⟨z, r⟩⟩
              · simp [h3]
              · simp [h2]
              · rfl
            simp -dsimp [runF, d_is_step, startL, el, e2, en, e0, isx_str, nl, i3, h3, i2, h2, sz, -MP.in_str]
      · have e2 : (["str"].any fun T => isiB (tyN x) T) = false := by
          cases x <;> first | (simp [tyN, isiB]; done) | exact absurd hx Bool.false_ne_true | exact absurd ⟨_, rfl⟩ hs
        have e3 : stepOf w = none := by
          unfold stepOf
          rw [e]
          cases x <;> first
            | exact absurd ⟨_, rfl⟩ hs
            | (rcases r with _ | ⟨y, _ | ⟨z, r⟩⟩ <;> rfl)
        simp -dsimp [runF, d_is_step, startL, el, e3, en, e0, isx_nr h (okI_nr hx), e2, nl]
/-- the items of a step -/
def Stp.its : Stp → List W
  | .keep => [.str "keep"]
  | .drop => [.str "drop"]
  | .turn => [.str "turn"]
  | .add c => [.str "add", T [c]]
  | .swap c => [.str "swap", T [c]]
theorem letOf_is {w : W} {c : Nat} (h : letOf w = some c) : w = T [c] ∧ sm c = true := by
  cases w <;> first
    | cases h
    | skip
  rename_i x
  rw [← S_eta x] at h ⊢
  rw [letOf_T] at h
  generalize x.cps.toList = l at h ⊢
  rcases l with _ | ⟨d, _ | ⟨e, r⟩⟩
  · cases h
  · cases hc : sm d with
    | true => simp [hc] at h; subst h; exact ⟨rfl, hc⟩
    | false => simp [hc] at h
  · cases h
theorem stepOf_its {w : W} {s : Stp} (h : stepOf w = some s) : its? w = some s.its ∧ ∀ c, (s = .add c ∨ s = .swap c) → sm c = true := by
  unfold stepOf at h
  split at h
  · rename_i x e
    rw [e]
    by_cases h1 : x = "keep"
    · subst h1; cases h; exact ⟨rfl, fun c z => by rcases z with z | z <;> cases z⟩
    · by_cases h2 : x = "drop"
      · subst h2; cases h; exact ⟨rfl, fun c z => by rcases z with z | z <;> cases z⟩
      · by_cases h3 : x = "turn"
        · subst h3; cases h; exact ⟨rfl, fun c z => by rcases z with z | z <;> cases z⟩
        · simp [h1, h2, h3] at h
  · rename_i x y e
    rw [e]
    rw [Option.bind_eq_some_iff] at h
    obtain ⟨c, h1, h2⟩ := h
    obtain ⟨rfl, hc⟩ := letOf_is h1
    by_cases h3 : x = "add"
    · subst h3; cases h2; exact ⟨rfl, fun c' z => by rcases z with z | z <;> cases z; exact hc⟩
    · by_cases h4 : x = "swap"
      · subst h4; cases h2; exact ⟨rfl, fun c' z => by rcases z with z | z <;> cases z; exact hc⟩
      · simp [h3, h4] at h2
  · cases h
/-! ### the scheme -/
structure Mo where
  names : List Str
  add : Str
  drop : Str
  swap : Str
  groups : List (List Nat × Str)
  turn : Option Str
def opW : Option Str → W
  | none => .non
  | some x => .str x
def schO (m : Mo) (kn : W) : O := .ins "Scheme" [("own_costs", .tup (m.names.map .str)), ("own_edits", .tup [.str m.add, .str m.drop, .str m.swap]), ("own_groups", .tup (m.groups.map fun g => .tup [T g.1, .str g.2])), ("own_turn", opW m.turn), ("own_known", kn)]
def Sc (m : Mo) (n : Nat) (h : List O) : Prop := ∃ kn, h[n]? = some (schO m kn)
section
variable {m : Mo} {n : Nat} {h : List O}
theorem at_costs (k : Nat) (s : Sc m n h) : attW (C k).cn (.ref n) "own_costs" h = .ok (.tup (m.names.map .str)) h := by
  obtain ⟨kn, e⟩ := s
  exact attW_of e (by simp) rfl
theorem at_edits (k : Nat) (s : Sc m n h) : attW (C k).cn (.ref n) "own_edits" h = .ok (.tup [.str m.add, .str m.drop, .str m.swap]) h := by
  obtain ⟨kn, e⟩ := s
  exact attW_of e (by simp) rfl
theorem at_groups (k : Nat) (s : Sc m n h) : attW (C k).cn (.ref n) "own_groups" h = .ok (.tup (m.groups.map fun g => .tup [T g.1, .str g.2])) h := by
  obtain ⟨kn, e⟩ := s
  exact attW_of e (by simp) rfl
theorem at_turn (k : Nat) (s : Sc m n h) : attW (C k).cn (.ref n) "own_turn" h = .ok (opW m.turn) h := by
  obtain ⟨kn, e⟩ := s
  exact attW_of e (by simp) rfl
theorem pr_turn (k : Nat) (s : Sc m n h) : attW (C (k + 2)).cn (.ref n) "cost_to_turn" h = .ok (opW m.turn) h := by
  have e1 := at_turn k s
  obtain ⟨kn, e⟩ := s
  rw [attW_prop e (nat_Scheme_cost_to_turn _) (prp_Scheme_cost_to_turn _) (frm_Scheme_cost_to_turn_1_0 _), ini_Scheme_cost_to_turn]
  simp -dsimp [runF, d_Scheme_cost_to_turn, startL, arr, e1]
theorem pr_costs (k : Nat) (s : Sc m n h) : attW (C (k + 2)).cn (.ref n) "costs" h = .ok (.tup (m.names.map .str)) h := by
  have e1 := at_costs k s
  obtain ⟨kn, e⟩ := s
  rw [attW_prop e (nat_Scheme_costs _) (prp_Scheme_costs _) (frm_Scheme_costs_1_0 _), ini_Scheme_costs]
  simp -dsimp [runF, d_Scheme_costs, startL, arr, e1]
theorem pr_add (k : Nat) (s : Sc m n h) : attW (C (k + 2)).cn (.ref n) "cost_to_add" h = .ok (.str m.add) h := by
  have e1 := at_edits k s
  obtain ⟨kn, e⟩ := s
  rw [attW_prop e (nat_Scheme_cost_to_add _) (prp_Scheme_cost_to_add _) (frm_Scheme_cost_to_add_1_0 _), ini_Scheme_cost_to_add]
  simp -dsimp [runF, d_Scheme_cost_to_add, startL, arr, e1, L2.atI, L2.ixN]
theorem pr_drop (k : Nat) (s : Sc m n h) : attW (C (k + 2)).cn (.ref n) "cost_to_drop" h = .ok (.str m.drop) h := by
  have e1 := at_edits k s
  obtain ⟨kn, e⟩ := s
  rw [attW_prop e (nat_Scheme_cost_to_drop _) (prp_Scheme_cost_to_drop _) (frm_Scheme_cost_to_drop_1_0 _), ini_Scheme_cost_to_drop]
  simp -dsimp [runF, d_Scheme_cost_to_drop, startL, arr, e1, L2.atI, L2.ixN]
theorem need_scheme_ok (k : Nat) (s : Sc m n h) : (C (k + 1)).cn.call "need_scheme" [.ref n] h = .ok .non h := by
  obtain ⟨kn, e⟩ := s
  have e1 : iscW (C k).cn (.ref n) "Scheme" h = .ok (.bl true) h := isc_ins e (by simp)
  rw [call_need_scheme]
  simp -dsimp [runF, d_need_scheme, startL, e1]
end
theorem need_word_ok (k : Nat) (l : List Nat) (h : List O) (hl : l.length ≤ 6) (hs : l.all sm = true) : (C (k + 3)).cn.call "need_word" [T l] h = .ok .non h := by
  have e1 := word_T k l h (by omega)
  rw [call_need_word]
  simp -dsimp [runF, d_need_word, startL, e1, hl, hs]
/-- what a step writes at a place, and how many letters it meets -/
def stepT (tn : Bool) (l : List Nat) (i : Nat) (w : W) : Option (List Nat × Nat) := match stepOf w with
  | none => none
  | some (.add c) => some ([c], 0)
  | some .turn => if tn = true then (match l[i]?, l[i + 1]? with
    | some a, some b => if a = b then none else some ([b, a], 2)
    | _, _ => none) else none
  | some .keep => l[i]?.map fun a => ([a], 1)
  | some .drop => l[i]?.map fun _ => ([], 1)
  | some (.swap c) => l[i]?.bind fun a => if c = a then none else some ([c], 1)
def stW : Option (List Nat × Nat) → W
  | none => .non
  | some (t, n) => .tup [T t, .int n]
end L08
set_option maxRecDepth 100000
set_option maxHeartbeats 4000000
namespace L08
open PySem PySem.Spec PyProof.Rows MP
section
variable (h : List O)
@[simp] theorem co_is (x y : W) : cmpO .Is (.inr x) (.inr y) h = oB (isW x y) h := rfl
@[simp] theorem co_isn (x y : W) : cmpO .IsNot (.inr x) (.inr y) h = oB ((isW x y).map (!·)) h := rfl
@[simp] theorem isW_nn : isW .non .non = some true := rfl
@[simp] theorem isW_sn (x : Str) : isW (.str x) .non = some false := rfl
@[simp] theorem isW_tn (x : List W) : isW (.tup x) .non = some false := rfl
@[simp] theorem isW_bb (a b : Bool) : isW (.bl a) (.bl b) = some (decide (a = b)) := rfl
@[simp] theorem isW_bn (a : Bool) : isW (.bl a) .non = some false := rfl
end
/-! the written words differ -/
@[simp] theorem bq_keep_add : ((("keep" : Str) == ("add" : Str)) : Bool) = false := by decide
@[simp] theorem bq_keep_turn : ((("keep" : Str) == ("turn" : Str)) : Bool) = false := by decide
@[simp] theorem bq_keep_swap : ((("keep" : Str) == ("swap" : Str)) : Bool) = false := by decide
@[simp] theorem bq_keep_drop : ((("keep" : Str) == ("drop" : Str)) : Bool) = false := by decide
@[simp] theorem bq_drop_add : ((("drop" : Str) == ("add" : Str)) : Bool) = false := by decide
@[simp] theorem bq_drop_turn : ((("drop" : Str) == ("turn" : Str)) : Bool) = false := by decide
@[simp] theorem bq_drop_swap : ((("drop" : Str) == ("swap" : Str)) : Bool) = false := by decide
@[simp] theorem bq_drop_keep : ((("drop" : Str) == ("keep" : Str)) : Bool) = false := by decide
@[simp] theorem bq_turn_add : ((("turn" : Str) == ("add" : Str)) : Bool) = false := by decide
@[simp] theorem bq_turn_swap : ((("turn" : Str) == ("swap" : Str)) : Bool) = false := by decide
@[simp] theorem bq_turn_drop : ((("turn" : Str) == ("drop" : Str)) : Bool) = false := by decide
@[simp] theorem bq_turn_keep : ((("turn" : Str) == ("keep" : Str)) : Bool) = false := by decide
@[simp] theorem bq_swap_add : ((("swap" : Str) == ("add" : Str)) : Bool) = false := by decide
@[simp] theorem bq_swap_turn : ((("swap" : Str) == ("turn" : Str)) : Bool) = false := by decide
@[simp] theorem bq_swap_drop : ((("swap" : Str) == ("drop" : Str)) : Bool) = false := by decide
@[simp] theorem bq_swap_keep : ((("swap" : Str) == ("keep" : Str)) : Bool) = false := by decide
@[simp] theorem bq_add_turn : ((("add" : Str) == ("turn" : Str)) : Bool) = false := by decide
@[simp] theorem bq_add_swap : ((("add" : Str) == ("swap" : Str)) : Bool) = false := by decide
@[simp] theorem bq_add_drop : ((("add" : Str) == ("drop" : Str)) : Bool) = false := by decide
@[simp] theorem bq_add_keep : ((("add" : Str) == ("keep" : Str)) : Bool) = false := by decide
theorem dget_s2 (h : List O) (a b : Str) (v w : W) (x : Str) : dgetW h (.sdct (mergeW [] [(.inr a, v), (.inr b, w)])) (.str x) = some (valW (mergeW [] [(.inr a, v), (.inr b, w)]) (.inr x)) := rfl
section
variable {m : Mo} {n : Nat} {h : List O}
theorem step_text_ok (k : Nat) (s : Sc m n h) (l : List Nat) (i : Nat) (w : W) (hl : l.length ≤ 900) (hi : i ≤ l.length) (hw : okW w = true) :
    (C (k + 4)).cn.call "step_text" [.ref n, T l, .int i, w] h = .ok (stW (stepT m.turn.isSome l i w)) h := by
  rw [call_step_text]
  have e1 := is_step_ok k w h hw
  have el := len_T h (a := l) (by omega)
  have et := pr_turn (k + 1) s
  cases es : stepOf w with
  | none =>
    rw [es] at e1
    simp -dsimp [runF, d_step_text, startL, e1, stepT, es, stW]
  | some st =>
    rw [es] at e1
    obtain ⟨ei, -⟩ := stepOf_its es
    have sub1 : ∀ {c : Nat} {j : Nat}, l[j]? = some c → subW (T l) (.int (j : Int)) h = .ok (T [c]) h := fun e => sub_T h (by omega) e
    cases st with
    | add c =>
      have e0 : subW w (.int 0) h = .ok (.str "add") h := sub_its (i := 0) h ei rfl
      have e2 : subW w (.int 1) h = .ok (T [c]) h := sub_its (i := 1) h ei rfl
      simp -dsimp [runF, d_step_text, startL, e1, stepT, es, stW, e0, e2, el, sz]
    | turn =>
      have e0 : subW w (.int 0) h = .ok (.str "turn") h := sub_its (i := 0) h ei rfl
      cases ht : m.turn with
      | none =>
        rw [ht] at et
        have : opW none = .non := rfl
        rw [this] at et
        simp -dsimp [runF, d_step_text, startL, e1, stepT, es, stW, e0, el, et, ht]
      | some x =>
        rw [ht] at et
        have : opW (some x) = .str x := rfl
        rw [this] at et
        by_cases h2 : i + 1 < l.length
        · have ea : l[i]? = some l[i] := List.getElem?_eq_getElem (by omega)
          have eb : l[i + 1]? = some l[i + 1] := List.getElem?_eq_getElem h2
          have sa := sub1 ea
          have sb : subW (T l) (.int ((i : Int) + 1)) h = .ok (T [l[i + 1]]) h := by
            have := sub1 eb
            simpa using this
          have c2 : ¬ ((l.length : Int) - (i : Int) < 2) := by omega
          by_cases hab : l[i] = l[i + 1]
          · simp -dsimp [runF, d_step_text, startL, e1, stepT, es, stW, e0, el, et, ht, sa, sb, c2, hab, eb, S_beq, List.getElem?_eq_getElem (show i < l.length by omega)]
          · simp -dsimp [runF, d_step_text, startL, e1, stepT, es, stW, e0, el, et, ht, sa, sb, c2, hab, eb, sz, S_beq, S_len, S_app, List.getElem?_eq_getElem (show i < l.length by omega)]
        · have c2 : ((l.length : Int) - (i : Int) < 2) := by omega
          have eb : l[i + 1]? = none := List.getElem?_eq_none (by omega)
          have e3 : stepT true l i w = none := by
            unfold stepT
            rw [es, eb]
            dsimp only
            cases l[i]? <;> rfl
          simp -dsimp [runF, d_step_text, startL, e1, e3, stW, e0, el, et, ht, c2]
    | keep =>
      have e0 : subW w (.int 0) h = .ok (.str "keep") h := sub_its (i := 0) h ei rfl
      by_cases h2 : i < l.length
      · have ea : l[i]? = some l[i] := List.getElem?_eq_getElem (by omega)
        have sa := sub1 ea
        have c2 : ¬ ((l.length : Int) - (i : Int) < 1) := by omega
        have dg : dgetW h (.sdct (mergeW [] [(.inr "keep", T [l[i]]), (.inr "drop", .str "")])) (.str "keep") = some (some (T [l[i]])) := rfl
        simp -dsimp [runF, d_step_text, startL, e1, stepT, es, stW, e0, el, sa, ea, c2, dg, sz]
      · have c2 : ((l.length : Int) - (i : Int) < 1) := by omega
        have ea : l[i]? = none := List.getElem?_eq_none (by omega)
        simp -dsimp [runF, d_step_text, startL, e1, stepT, es, stW, e0, el, ea, c2]
    | drop =>
      have e0 : subW w (.int 0) h = .ok (.str "drop") h := sub_its (i := 0) h ei rfl
      by_cases h2 : i < l.length
      · have ea : l[i]? = some l[i] := List.getElem?_eq_getElem (by omega)
        have sa := sub1 ea
        have c2 : ¬ ((l.length : Int) - (i : Int) < 1) := by omega
        have dg : dgetW h (.sdct (mergeW [] [(.inr "keep", T [l[i]]), (.inr "drop", T [])])) (.str "drop") = some (some (T [])) := rfl
        have em : W.str "" = T [] := rfl
        simp -dsimp [runF, d_step_text, startL, e1, stepT, es, stW, e0, el, sa, ea, c2, dg, sz, em]
      · have c2 : ((l.length : Int) - (i : Int) < 1) := by omega
        have ea : l[i]? = none := List.getElem?_eq_none (by omega)
        simp -dsimp [runF, d_step_text, startL, e1, stepT, es, stW, e0, el, ea, c2]
    | swap c =>
      have e0 : subW w (.int 0) h = .ok (.str "swap") h := sub_its (i := 0) h ei rfl
      have e2 : subW w (.int 1) h = .ok (T [c]) h := sub_its (i := 1) h ei rfl
      by_cases h2 : i < l.length
      · have ea : l[i]? = some l[i] := List.getElem?_eq_getElem (by omega)
        have sa := sub1 ea
        have c2 : ¬ ((l.length : Int) - (i : Int) < 1) := by omega
        by_cases hab : c = l[i]
        · simp -dsimp [runF, d_step_text, startL, e1, stepT, es, stW, e0, e2, el, sa, ea, c2, S_beq, ← hab]
        · simp -dsimp [runF, d_step_text, startL, e1, stepT, es, stW, e0, e2, el, sa, ea, c2, S_beq, hab, sz]
      · have c2 : ((l.length : Int) - (i : Int) < 1) := by omega
        have ea : l[i]? = none := List.getElem?_eq_none (by omega)
        simp -dsimp [runF, d_step_text, startL, e1, stepT, es, stW, e0, el, ea, c2]
end
end L08
set_option maxRecDepth 100000
set_option maxHeartbeats 4000000
namespace L08
open PySem PySem.Spec PyProof.Rows MP
/-! ### rows, by their steps -/
def stepS (tn : Bool) (l : List Nat) (i : Nat) : Stp → Option (List Nat × Nat)
  | .add c => some ([c], 0)
  | .turn => if tn = true then (match l[i]?, l[i + 1]? with
    | some a, some b => if a = b then none else some ([b, a], 2)
    | _, _ => none) else none
  | .keep => l[i]?.map fun a => ([a], 1)
  | .drop => l[i]?.map fun _ => ([], 1)
  | .swap c => l[i]?.bind fun a => if c = a then none else some ([c], 1)
theorem stepT_S (tn : Bool) (l : List Nat) (i : Nat) (w : W) : stepT tn l i w = (stepOf w).bind (stepS tn l i) := by
  unfold stepT
  cases stepOf w with
  | none => rfl
  | some s => cases s <;> rfl
/-- the text behind some steps, and the place -/
def readT (tn : Bool) (l : List Nat) : List W → List Nat → Nat → Option (List Nat × Nat)
  | [], t, i => some (t, i)
  | w :: ws, t, i => (stepT tn l i w).bind fun r => readT tn l ws (t ++ r.1) (i + r.2)
theorem stepS_le {tn : Bool} {l : List Nat} {i : Nat} {s : Stp} {r : List Nat × Nat} (h : stepS tn l i s = some r) (hi : i ≤ l.length) : i + r.2 ≤ l.length ∧ r.1.length ≤ 2 := by
  cases s with
  | add c => cases h; exact ⟨hi, by simp⟩
  | keep =>
    simp only [stepS, Option.map_eq_some_iff] at h
    obtain ⟨a, e, rfl⟩ := h
    have := (List.getElem?_eq_some_iff.mp e).1
    exact ⟨by simp; omega, by simp⟩
  | drop =>
    simp only [stepS, Option.map_eq_some_iff] at h
    obtain ⟨a, e, rfl⟩ := h
    have := (List.getElem?_eq_some_iff.mp e).1
    exact ⟨by simp; omega, by simp⟩
  | swap c =>
    simp only [stepS, Option.bind_eq_some_iff] at h
    obtain ⟨a, e, h⟩ := h
    have := (List.getElem?_eq_some_iff.mp e).1
    split at h
    · cases h
    · cases h; exact ⟨by simp; omega, by simp⟩
  | turn =>
    simp only [stepS] at h
    split at h
    · split at h
      · rename_i a b e1 e2
        have := (List.getElem?_eq_some_iff.mp e2).1
        split at h
        · cases h
        · cases h; exact ⟨by simp; omega, by simp⟩
      · cases h
    · cases h
theorem stepT_le {tn : Bool} {l : List Nat} {i : Nat} {w : W} {r : List Nat × Nat} (h : stepT tn l i w = some r) (hi : i ≤ l.length) : i + r.2 ≤ l.length ∧ r.1.length ≤ 2 := by
  rw [stepT_S, Option.bind_eq_some_iff] at h
  obtain ⟨s, _, h⟩ := h
  exact stepS_le h hi
/-- what a value writes as a row -/
def readR (h : List O) (tn : Bool) (l : List Nat) (w : W) : Option (List Nat) := (itsH h w).bind fun ws => (readT tn l ws [] 0).bind fun r => if (decide (r.2 = l.length) && (decide (r.1.length ≤ 6) && r.1.all sm)) = true then some r.1 else none
/-- a value that may stand as a row -/
def okR (h : List O) (w : W) : Bool := match itsH h w with
  | some ws => ws.all okW && decide (ws.length ≤ 300)
  | none => nr w
theorem okR_nr {h : List O} {w : W} (hw : okR h w = true) : nrH h w = true := by
  unfold okR at hw
  unfold nrH
  cases e : itsH h w with
  | some ws => rw [Option.isSome_some, Bool.or_true]
  | none =>
    rw [e] at hw
    rw [show nr w = true from hw]
    rfl
section
variable {m : Mo} {n : Nat} {h : List O}
theorem read_for (k : Nat) (s : Sc m n h) (l : List Nat) (rw' : W) (hl : l.length ≤ 900) {gs : Gd} (hG : gsOk h gs = true) : ∀ (ws : List W) (t : List Nat) (i : Nat) (a b : Option W), (∀ w ∈ ws, okW w = true) → t.length + 2 * ws.length ≤ 900 → i ≤ l.length →
    (readT m.turn.isSome l ws t i = none → ∃ ℓ, forL (forBody (C (k + 4)) (.name 5) fb_read_row_0) gs ws [some (.ref n), some (T l), some rw', some (T t), some (.int i), a, b] h = .ok (.rt .non) ℓ h) ∧
    (∀ t' i', readT m.turn.isSome l ws t i = some (t', i') → t'.length ≤ t.length + 2 * ws.length ∧ i' ≤ l.length ∧ ∃ a' b', forL (forBody (C (k + 4)) (.name 5) fb_read_row_0) gs ws [some (.ref n), some (T l), some rw', some (T t), some (.int i), a, b] h = .ok .nx [some (.ref n), some (T l), some rw', some (T t'), some (.int (i' : Nat)), a', b'] h)
  | [], t, i, a, b, _, _, hi => ⟨fun e => (by cases e), fun t' i' e => (by cases e; exact ⟨by simp, hi, a, b, for_nilG hG⟩)⟩
  | w :: ws, t, i, a, b, hw, ht, hi => by
    rw [List.length_cons] at ht
    have e1 := step_text_ok k s l i w hl hi (hw w List.mem_cons_self)
    cases es : stepT m.turn.isSome l i w with
    | none =>
      rw [es] at e1
      refine ⟨fun _ => ⟨[some (.ref n), some (T l), some rw', some (T t), some (.int i), some w, some .non], ?_⟩, fun t' i' e => (by simp [readT, es] at e)⟩
      have eb : forBody (C (k + 4)) (.name 5) fb_read_row_0 w [some (.ref n), some (T l), some rw', some (T t), some (.int i), a, b] h = .ok (.rt .non) [some (.ref n), some (T l), some rw', some (T t), some (.int i), some w, some .non] h := by
        simp -dsimp [forBody, e1, stW]
      rw [for_consG hG, eb]
      rfl
    | some r =>
      obtain ⟨t2, j⟩ := r
      rw [es] at e1
      obtain ⟨q1, q2⟩ := stepT_le es hi
      have ad : binW .Add (T t) (T t2) h = .ok (T (t ++ t2)) h := add_T h (by simp at q2; omega)
      have eb : forBody (C (k + 4)) (.name 5) fb_read_row_0 w [some (.ref n), some (T l), some rw', some (T t), some (.int i), a, b] h = .ok .nx [some (.ref n), some (T l), some rw', some (T (t ++ t2)), some (.int ((i + j : Nat) : Int)), some w, some (.tup [T t2, .int j])] h := by
        simp -dsimp [forBody, e1, stW, L2.atI, L2.ixN, ad, -MP.b_addS]
      obtain ⟨ih1, ih2⟩ := read_for k s l rw' hl hG ws (t ++ t2) (i + j) (some w) (some (.tup [T t2, .int j])) (fun w hw' => hw w (List.mem_cons_of_mem _ hw')) (by simp at q2 ⊢; omega) q1
      refine ⟨fun e => ?_, fun t' i' e => ?_⟩
      · obtain ⟨ℓ, e2⟩ := ih1 (by simpa [readT, es] using e)
        exact ⟨ℓ, by rw [for_consG hG, eb, turnS_nx, e2]⟩
      · obtain ⟨q3, q4, a', b', e2⟩ := ih2 t' i' (by simpa [readT, es] using e)
        exact ⟨by simp at q3 q2 ⊢; omega, q4, a', b', by rw [for_consG hG, eb, turnS_nx, e2]⟩
def opT : Option (List Nat) → W
  | none => .non
  | some t => T t
theorem read_row_ok (k : Nat) (s : Sc m n h) (l : List Nat) (w : W) (hl : l.length ≤ 900) (hw : okR h w = true) : (C (k + 5)).cn.call "read_row" [.ref n, T l, w] h = .ok (opT (readR h m.turn.isSome l w)) h := by
  rw [call_read_row]
  have el := list_H (k + 3) h (okR_nr hw)
  have em : W.str "" = T [] := rfl
  cases e : itsH h w with
  | none =>
    rw [e] at el
    simp -dsimp [runF, d_read_row, startL, el, sz, seqW, readR, e, opT]
  | some ws =>
    rw [e] at el
    have hk : ws.all okW = true ∧ ws.length ≤ 300 := by
      have z := hw
      unfold okR at z
      rw [e] at z
      simpa using z
    obtain ⟨gs, eso, hG0⟩ := soH true e
    obtain ⟨f1, f2⟩ := read_for k s l w hl hG0 ws [] 0 none none (fun x hx => List.all_eq_true.mp hk.1 x hx) (by simp; omega) (Nat.zero_le _)
    have eln := len_T h (a := l) (by omega)
    cases er : readT m.turn.isSome l ws [] 0 with
    | none =>
      obtain ⟨ℓ, f⟩ := f1 er
      simp -dsimp at f
      simp -dsimp [runF, d_read_row, startL, el, sz, seqW, readR, e, opT, eso, em, f, er]
    | some r =>
      obtain ⟨t', i'⟩ := r
      obtain ⟨q1, q2, a', b', f⟩ := f2 t' i' er
      have ew := word_T (k + 2) t' h (by simp at q1; omega)
      simp -dsimp at f
      have e3 : readR h m.turn.isSome l w = if (decide (i' = l.length) && (decide (t'.length ≤ 6) && t'.all sm)) = true then some t' else none := by
        unfold readR
        rw [e, Option.bind_some, er]
        rfl
      by_cases hi : i' = l.length
      · subst hi
        rw [decide_eq_true rfl, Bool.true_and] at e3
        cases hq : (decide (t'.length ≤ 6) && t'.all sm) with
        | true =>
          rw [hq] at e3 ew
          rw [e3]
          simp -dsimp [runF, d_read_row, startL, el, sz, seqW, opT, eso, em, f, eln, ew]
        | false =>
          rw [hq] at e3 ew
          rw [e3]
          simp -dsimp [runF, d_read_row, startL, el, sz, seqW, opT, eso, em, f, eln, ew]
      · have hb : ((i' : Int) == (l.length : Int)) = false := by rw [beq_eq_false_iff_ne]; omega
        rw [decide_eq_false hi, Bool.false_and, if_neg Bool.false_ne_true] at e3
        rw [e3]
        simp -dsimp [runF, d_read_row, startL, el, sz, seqW, opT, eso, em, f, eln, hb]
theorem opT_isn (h : List O) (o : Option (List Nat)) : oB ((isW (opT o) .non).map (!·)) h = .ok (.bl o.isSome) h := by
  cases o <;> rfl
theorem is_row_ok (k : Nat) (s : Sc m n h) (l : List Nat) (w : W) (hl : l.length ≤ 6) (hs : l.all sm = true) (hw : okR h w = true) : (C (k + 6)).cn.call "is_row_rows" [.ref n, T l, w] h = .ok (.bl (readR h m.turn.isSome l w).isSome) h := by
  rw [call_is_row_rows]
  have e1 := need_scheme_ok (k + 4) s
  have e2 := need_word_ok (k + 2) l h hl hs
  have e3 := read_row_ok k s l w (by omega) hw
  simp -dsimp [runF, d_is_row_rows, startL, e1, e2, e3, opT_isn]
theorem need_row_yes (k : Nat) (s : Sc m n h) (l : List Nat) (w : W) (hl : l.length ≤ 6) (hs : l.all sm = true) (hw : okR h w = true) {t : List Nat} (er : readR h m.turn.isSome l w = some t) : (C (k + 7)).cn.call "need_row" [.ref n, T l, w] h = .ok .non h := by
  rw [call_need_row]
  have e1 := is_row_ok k s l w hl hs hw
  rw [er] at e1
  simp -dsimp [runF, d_need_row, startL, e1]
theorem written_yes (k : Nat) (s : Sc m n h) (l : List Nat) (w : W) (hl : l.length ≤ 6) (hs : l.all sm = true) (hw : okR h w = true) {t : List Nat} (er : readR h m.turn.isSome l w = some t) : (C (k + 8)).cn.call "written" [.ref n, T l, w] h = .ok (T t) h := by
  rw [call_written]
  have e1 := need_row_yes k s l w hl hs hw er
  have e2 := read_row_ok (k + 2) s l w (by omega) hw
  rw [er] at e2
  simp -dsimp [runF, d_written, startL, e1, e2, opT]
end
end L08
set_option maxRecDepth 100000
set_option maxHeartbeats 4000000
namespace L08
open PySem PySem.Spec PyProof.Rows MP
/-! ### valid rows -/
def Stp.many : Stp → Nat
  | .add _ => 0
  | .turn => 2
  | _ => 1
theorem stepS_many {tn : Bool} {l : List Nat} {i : Nat} {s : Stp} {r : List Nat × Nat} (h : stepS tn l i s = some r) : r.2 = s.many := by
  cases s with
  | add c => cases h; rfl
  | keep =>
    simp only [stepS, Option.map_eq_some_iff] at h
    obtain ⟨a, e, rfl⟩ := h
    rfl
  | drop =>
    simp only [stepS, Option.map_eq_some_iff] at h
    obtain ⟨a, e, rfl⟩ := h
    rfl
  | swap c =>
    simp only [stepS, Option.bind_eq_some_iff] at h
    obtain ⟨a, e, h⟩ := h
    split at h
    · cases h
    · cases h; rfl
  | turn =>
    simp only [stepS] at h
    split at h
    · split at h
      · split at h
        · cases h
        · cases h; rfl
      · cases h
    · cases h
def readS (tn : Bool) (l : List Nat) : List Stp → List Nat → Nat → Option (List Nat × Nat)
  | [], t, i => some (t, i)
  | s :: ss, t, i => (stepS tn l i s).bind fun r => readS tn l ss (t ++ r.1) (i + r.2)
theorem readT_S {tn : Bool} {l : List Nat} : ∀ {ws : List W} {sts : List Stp} {t : List Nat} {i : Nat}, ws.map stepOf = sts.map some → readT tn l ws t i = readS tn l sts t i
  | [], [], t, i, _ => rfl
  | [], _ :: _, t, i, h => by cases h
  | _ :: _, [], t, i, h => by cases h
  | w :: ws, s :: ss, t, i, h => by
    rw [List.map_cons, List.map_cons] at h
    injection h with h1 h2
    rw [readT, readS, stepT_S, h1, Option.bind_some]
    congr 1
    funext r
    exact readT_S h2
theorem readT_some {tn : Bool} {l : List Nat} : ∀ {ws : List W} {t : List Nat} {i : Nat} {r : List Nat × Nat}, readT tn l ws t i = some r → ∃ sts : List Stp, ws.map stepOf = sts.map some
  | [], t, i, r, _ => ⟨[], rfl⟩
  | w :: ws, t, i, r, h => by
    rw [readT, Option.bind_eq_some_iff] at h
    obtain ⟨r1, e1, h⟩ := h
    rw [stepT_S, Option.bind_eq_some_iff] at e1
    obtain ⟨s, es, _⟩ := e1
    obtain ⟨ss, e2⟩ := readT_some h
    exact ⟨s :: ss, by rw [List.map_cons, List.map_cons, es, e2]⟩
/-- a row of a word: its steps, and what it writes -/
structure Row (h : List O) (tn : Bool) (l : List Nat) (w : W) (ws : List W) (sts : List Stp) (t : List Nat) : Prop where
  its : itsH h w = some ws
  st : ws.map stepOf = sts.map some
  rd : readS tn l sts [] 0 = some (t, l.length)
  len : t.length ≤ 6
  sm : t.all sm = true
theorem row_of {h0 : List O} {tn : Bool} {l : List Nat} {w : W} {t : List Nat} (h : readR h0 tn l w = some t) : ∃ ws sts, Row h0 tn l w ws sts t := by
  unfold readR at h
  rw [Option.bind_eq_some_iff] at h
  obtain ⟨ws, e, h⟩ := h
  rw [Option.bind_eq_some_iff] at h
  obtain ⟨⟨t', i'⟩, e2, h⟩ := h
  split at h
  · rename_i c
    cases h
    simp only [Bool.and_eq_true, decide_eq_true_eq] at c
    obtain ⟨sts, es⟩ := readT_some e2
    refine ⟨ws, sts, e, es, ?_, c.2.1, c.2.2⟩
    rw [← readT_S es, e2, c.1]
  · cases h
theorem Row.read {h : List O} {tn : Bool} {l : List Nat} {w : W} {ws : List W} {sts : List Stp} {t : List Nat} (r : Row h tn l w ws sts t) : readR h tn l w = some t := by
  unfold readR
  rw [r.its, Option.bind_some, readT_S r.st, r.rd, Option.bind_some]
  dsimp only
  rw [decide_eq_true rfl, decide_eq_true r.len, r.sm]
  rfl
/-! ### each step with the letters that it meets -/
def metS (l : List Nat) : List Stp → Nat → List (Stp × List Nat)
  | [], _ => []
  | s :: ss, i => (s, (l.drop i).take s.many) :: metS l ss (i + s.many)
def encM (p : Stp × List Nat) : W := .tup [.tup p.1.its, T p.2]
theorem dg_many (h : List O) (s : Stp) : ∃ x r, s.its = .str x :: r ∧ ((dgetW h (.sdct (mergeW [] [(.inr "add", .int 0), (.inr "turn", .int 2)])) (.str x)).map fun o => o.getD (.int 1)) = some (.int s.many) := by
  cases s with
  | add c => exact ⟨_, _, rfl, rfl⟩
  | turn => exact ⟨_, _, rfl, rfl⟩
  | keep => exact ⟨_, _, rfl, rfl⟩
  | drop => exact ⟨_, _, rfl, rfl⟩
  | swap c => exact ⟨_, _, rfl, rfl⟩
theorem set_last {α : Type} (h : List α) (a b : α) : (h ++ [a]).set h.length b = h ++ [b] := by simp
theorem get_last {α : Type} (h : List α) (a : α) : (h ++ [a])[h.length]? = some a := by simp
theorem Row.app {h : List O} {tn : Bool} {l : List Nat} {w : W} {ws : List W} {sts : List Stp} {t : List Nat} (r : Row h tn l w ws sts t) (o : List O) : Row (h ++ o) tn l w ws sts t := ⟨itsH_app r.its, r.st, r.rd, r.len, r.sm⟩
theorem met_for {gs : Gd} (k : Nat) (h : List O) (hG : ∀ o, gsOk (h ++ o) gs = true) (l : List Nat) (tn : Bool) (w0 : W) (hl : l.length ≤ 900) : ∀ (ws : List W) (sts : List Stp) (t : List Nat) (i : Nat) (r : List Nat × Nat) (acc : List W) (a b : Option W), ws.map stepOf = sts.map some → readS tn l sts t i = some r → i ≤ l.length → acc.length + ws.length ≤ 900 →
    ∃ i' a' b', forL (forBody (C k) (.name 4) fb_met_0) gs ws [some (T l), some w0, some (.ref h.length), some (.int (i : Nat)), a, b] (h ++ [.lst acc]) = .ok .nx [some (T l), some w0, some (.ref h.length), some (.int (i' : Nat)), a', b'] (h ++ [.lst (acc ++ (metS l sts i).map encM)])
  | [], [], t, i, r, acc, a, b, _, _, _, _ => ⟨i, a, b, by rw [metS, List.map_nil, List.append_nil]; exact for_nilG (hG _)⟩
  | [], _ :: _, _, _, _, _, _, _, hm, _, _, _ => by cases hm
  | _ :: _, [], _, _, _, _, _, _, hm, _, _, _ => by cases hm
  | w :: ws, s :: ss, t, i, r, acc, a, b, hm, hr, hi, hc => by
    rw [List.map_cons, List.map_cons] at hm
    injection hm with h1 h2
    rw [List.length_cons] at hc
    rw [readS, Option.bind_eq_some_iff] at hr
    obtain ⟨r1, e1, hr⟩ := hr
    have em := stepS_many e1
    obtain ⟨le, _⟩ := stepS_le e1 hi
    rw [em] at le hr
    obtain ⟨ei, _⟩ := stepOf_its h1
    obtain ⟨i', a', b', ih⟩ := met_for k h hG l tn w0 hl ws ss (t ++ r1.1) (i + s.many) r (acc ++ [encM (s, (l.drop i).take s.many)]) (some w) (some (.int s.many)) h2 hr le (by simp; omega)
    refine ⟨i', a', b', ?_⟩
    have hh := get_last h (.lst acc)
    obtain ⟨x, q, ex, ed⟩ := dg_many (h ++ [O.lst acc]) s
    have e0 : subW w (.int 0) (h ++ [O.lst acc]) = .ok (.str x) (h ++ [O.lst acc]) := sub_its (i := 0) _ ei (by rw [ex]; rfl)
    have es : seqR (h ++ [O.lst acc]) w = .ok s.its (h ++ [O.lst acc]) := seqR_its _ ei
    have ec : sliceW (T l) (some (i : Int)) (some ((i : Int) + (s.many : Int))) (h ++ [O.lst acc]) = .ok (T ((l.drop i).take s.many)) (h ++ [O.lst acc]) := by
      rw [slice_T _ (by omega)]
      have : ((i : Int) + (s.many : Int)) = ((i + s.many : Nat) : Int) := by simp
      rw [this, cut_some hi le]
      congr 4
      omega
    have ap := app_ref (y := encM (s, (l.drop i).take s.many)) hh (by omega)
    have il := isLst_ref hh
    have em2 : encM (s, (l.drop i).take s.many) = .tup [.tup s.its, T ((l.drop i).take s.many)] := rfl
    rw [em2] at ap
    obtain ⟨od, eo, eg⟩ := Option.map_eq_some_iff.mp ed
    have eb : forBody (C k) (.name 4) fb_met_0 w [some (T l), some w0, some (.ref h.length), some (.int (i : Nat)), a, b] (h ++ [.lst acc]) = .ok .nx [some (T l), some w0, some (.ref h.length), some (.int ((i + s.many : Nat) : Int)), some w, some (.int s.many)] (h ++ [.lst (acc ++ [encM (s, (l.drop i).take s.many)])]) := by
      simp -dsimp [forBody, e0, eo, eg, es, ec, ap, il, sz, em2, dctW]
    rw [for_consG (hG _), eb, turnS_nx, ih, metS, List.map_cons, List.append_assoc]
    rfl
theorem its_cls (s : Stp) : MP.cls s.its = true := by cases s <;> rfl
theorem encM_cls (ps : List (Stp × List Nat)) : MP.cls (ps.map encM) = true := by
  rw [MP.cls_all, List.all_map]
  refine List.all_eq_true.mpr fun p _ => ?_
  show MP.cls [.tup p.1.its, T p.2] = true
  rw [MP.cls, cl, its_cls]
  rfl
theorem met_ok (k : Nat) (h : List O) {tn : Bool} {l : List Nat} {w : W} {ws : List W} {sts : List Stp} {t : List Nat} (r : Row h tn l w ws sts t) (hl : l.length ≤ 900) (hw : ws.length ≤ 300) :
    (C (k + 1)).cn.call "met" [T l, w] h = .ok (.slst ((metS l sts 0).map encM)) h := by
  rw [call_met, runF_of rfl]
  obtain ⟨gs, eso', hG⟩ := soHs true r.its
  obtain ⟨i', a', b', e⟩ := met_for k h hG l tn w hl ws sts [] 0 _ [] none none r.st r.rd (Nat.zero_le _) (by simp; omega)
  have eso := eso' [O.lst []]
  simp -dsimp at e
  have q : endF (evSs (C k) d_met.body (startL d_met.N.length [T l, w]) h) = .ok (.ref h.length) (h ++ [O.lst ((metS l sts 0).map encM)]) := by
    simp -dsimp [d_met, startL, sz, eso, e]
  rw [q, show d_met.gc = true from rfl, gcF_t, gcR_list (Nat.le_refl _) (get_last _ _) (encM_cls _)]
end L08
set_option maxRecDepth 100000
set_option maxHeartbeats 4000000
namespace L08
open PySem PySem.Spec PyProof.Rows MP
/-! ### what the steps of a valid row are -/
def okM (tn : Bool) (p : Stp × List Nat) : Prop := match p.1 with
  | .swap c => ∃ a, p.2 = [a] ∧ sm a = true ∧ a ≠ c ∧ sm c = true
  | .drop => ∃ a, p.2 = [a] ∧ sm a = true
  | .turn => tn = true
  | .add c => p.2 = [] ∧ sm c = true
  | .keep => True
theorem metS_ok {tn : Bool} {l : List Nat} (hs : l.all sm = true) : ∀ {ws : List W} {sts : List Stp} {t : List Nat} {i : Nat} {r : List Nat × Nat}, ws.map stepOf = sts.map some → readS tn l sts t i = some r → ∀ p ∈ metS l sts i, okM tn p
  | _, [], _, _, _, _, _ => fun p hp => nomatch hp
  | [], _ :: _, _, _, _, hm, _ => by cases hm
  | w :: ws, s :: ss, t, i, r, hm, hr => by
    rw [List.map_cons, List.map_cons] at hm
    injection hm with h1 h2
    rw [readS, Option.bind_eq_some_iff] at hr
    obtain ⟨r1, e1, hr⟩ := hr
    have em := stepS_many e1
    rw [em] at hr
    have ih := metS_ok hs h2 hr
    obtain ⟨_, hc⟩ := stepOf_its h1
    intro p hp
    rw [metS] at hp
    have one : ∀ {a : Nat}, l[i]? = some a → (l.drop i).take 1 = [a] ∧ sm a = true := fun {a} e => by
      have hlt := (List.getElem?_eq_some_iff.mp e).1
      have e2 := (List.getElem?_eq_some_iff.mp e).2
      rw [List.drop_eq_getElem_cons hlt, e2]
      exact ⟨rfl, List.all_eq_true.mp hs a (List.mem_of_getElem? e)⟩
    rcases List.mem_cons.mp hp with rfl | hp
    · cases s with
      | add c => exact ⟨rfl, hc c (.inl rfl)⟩
      | keep => trivial
      | drop =>
        simp only [stepS, Option.map_eq_some_iff] at e1
        obtain ⟨a, e, _⟩ := e1
        exact ⟨a, (one e).1, (one e).2⟩
      | swap c =>
        simp only [stepS, Option.bind_eq_some_iff] at e1
        obtain ⟨a, e, e1⟩ := e1
        split at e1
        · cases e1
        · rename_i hne
          exact ⟨a, (one e).1, (one e).2, fun z => hne z.symm, hc c (.inr rfl)⟩
      | turn =>
        simp only [stepS] at e1
        split at e1
        · assumption
        · cases e1
    · exact ih p hp
/-- the cost of replacing one letter by another -/
def swapN (m : Mo) (a b : Nat) : Str := match m.groups.find? (fun g => decide (a ∈ g.1) && decide (b ∈ g.1)) with
  | some g => g.2
  | none => m.swap
def costOf (m : Mo) (p : Stp × List Nat) : Option Str := match p.1 with
  | .keep => none
  | .drop => some m.drop
  | .add _ => some m.add
  | .turn => m.turn
  | .swap c => match p.2 with
    | [a] => some (swapN m a c)
    | _ => none
def eqN (x : Str) : Option Str → Bool
  | none => false
  | some y => x == y
/-- counts with one more -/
def addC (ns : List Str) (o : Option Str) (cs : List Int) : List Int := (ns.zip cs).map fun p => p.2 + (if eqN p.1 o = true then 1 else 0)
def countsR (m : Mo) (ps : List (Stp × List Nat)) : List Int := ps.foldl (fun cs p => addC m.names (costOf m p) cs) (m.names.map fun _ => 0)
section
variable {m : Mo} {n : Nat} {h : List O}
theorem letter_T (k : Nat) (c : Nat) (h : List O) (hc : sm c = true) : (C (k + 2)).cn.call "is_letter" [T [c]] h = .ok (.bl true) h := by
  have e := letter_ok k (T [c]) h (by show decide ((S [c]).length ≤ 900) = true; rw [S_len]; rfl)
  rw [letOf_T] at e
  simp [hc] at e
  exact e
theorem swap_cost_ok (k : Nat) (s : Sc m n h) (a b : Nat) (ha : sm a = true) (hb : sm b = true) (hab : a ≠ b) : (C (k + 3)).cn.call "Scheme.swap_cost" [.ref n, T [a], T [b]] h = .ok (.str (swapN m a b)) h := by
  rw [call_Scheme_swap_cost]
  have e1 := letter_T k a h ha
  have e2 := letter_T k b h hb
  have eg := at_groups (k + 2) s
  have ee := at_edits (k + 2) s
  have hne : ¬ (b = a) := fun z => hab z.symm
  obtain ⟨o, ef⟩ := for_ret (f := forBody (C (k + 2)) (.tup (.cons (.name 3) (.cons (.name 4) .nil))) fb_Scheme_swap_cost_0) (a := fun g : List Nat × Str => W.tup [T g.1, .str g.2]) (p := fun g => decide (a ∈ g.1) && decide (b ∈ g.1)) (r := fun g => .str g.2) (st := fun (o : Option W × Option W) => [some (.ref n), some (T [a]), some (T [b]), o.1, o.2]) (h := h) (xs := m.groups) (o := (none, none)) (fun g _ o => by
    refine ⟨(some (T g.1), some (.str g.2)), ?_⟩
    have i1 := in_T h a (S g.1)
    have i2 := in_T h b (S g.1)
    have ec : (S g.1).cps.toList = g.1 := by simp
    rw [ec] at i1 i2
    by_cases h1 : a ∈ g.1
    · by_cases h2 : b ∈ g.1
      · simp -dsimp [forBody, seqW, i1, i2, h1, h2, -MP.in_str]
      · simp -dsimp [forBody, seqW, i1, i2, h1, h2, -MP.in_str]
    · simp -dsimp [forBody, seqW, i1, i2, h1, -MP.in_str])
  simp -dsimp at ef
  unfold swapN
  cases hq : m.groups.find? (fun g => decide (a ∈ g.1) && decide (b ∈ g.1)) with
  | some g =>
    rw [hq] at ef
    simp -dsimp at ef
    simp -dsimp [runF, d_Scheme_swap_cost, startL, e1, e2, eg, S_beq, hne, ef]
  | none =>
    rw [hq] at ef
    simp -dsimp at ef
    simp -dsimp [runF, d_Scheme_swap_cost, startL, e1, e2, eg, ee, S_beq, hne, ef, L2.atI, L2.ixN]
theorem stepOf_enc (s : Stp) (hs : ∀ c, (s = .add c ∨ s = .swap c) → sm c = true) : stepOf (.tup s.its) = some s := by
  cases s with
  | add c =>
    have := hs c (.inl rfl)
    simp [stepOf, its?, Stp.its, letOf_T, this]
  | swap c =>
    have := hs c (.inr rfl)
    simp [stepOf, its?, Stp.its, letOf_T, this]
    decide
  | keep => rfl
  | drop => rfl
  | turn => rfl
theorem okW_enc (s : Stp) : okW (.tup s.its) = true := by
  cases s <;> first
    | rfl
    | (simp [okW, its?, Stp.its, okI, S_len]; done)
    | (simp [okW, its?, Stp.its, okI, S_len]; decide)
theorem okM_sm {tn : Bool} {p : Stp × List Nat} (h : okM tn p) : ∀ c, (p.1 = .add c ∨ p.1 = .swap c) → sm c = true := by
  intro c hc
  unfold okM at h
  rcases hc with hc | hc
  · rw [hc] at h; exact h.2
  · rw [hc] at h
    obtain ⟨a, _, _, _, e⟩ := h
    exact e
/-- the letter that is handed on -/
def letM (p : Stp × List Nat) : W := match p.1 with
  | .swap _ => T p.2
  | _ => .non
theorem step_cost_ok (k : Nat) (s : Sc m n h) (p : Stp × List Nat) (hp : okM m.turn.isSome p) : (C (k + 4)).cn.call "Scheme.step_cost" [.ref n, .tup p.1.its, letM p] h = .ok (opW (costOf m p)) h := by
  rw [call_Scheme_step_cost]
  have e1 := is_step_ok k (.tup p.1.its) h (okW_enc _)
  rw [stepOf_enc p.1 (okM_sm hp)] at e1
  have et := at_turn (k + 3) s
  have pa := pr_add (k + 1) s
  have pd := pr_drop (k + 1) s
  obtain ⟨st, ls⟩ := p
  have dgs : ∀ x : Str, x ∈ (["keep", "add", "drop", "turn"] : List Str) → ∀ v : W, (if x = "add" then .str m.add else if x = "drop" then .str m.drop else if x = "turn" then opW m.turn else .non) = v →
      (dgetW h (.sdct (mergeW [] [(.inr "add", .str m.add), (.inr "drop", .str m.drop), (.inr "turn", opW m.turn)])) (.str x)).map (fun o => o.getD .non) = some v := by
    intro x hx v hv
    subst hv
    simp only [List.mem_cons, List.not_mem_nil, or_false] at hx
    rcases hx with rfl | rfl | rfl | rfl <;> rfl
  cases st with
  | add c =>
    dsimp only [Stp.its] at e1
    obtain ⟨o, q1, q2⟩ := Option.map_eq_some_iff.mp (dgs "add" (by simp) (.str m.add) rfl)
    show _ = R.ok (W.str m.add) h
    simp -dsimp [runF, d_Scheme_step_cost, startL, e1, et, pa, pd, Stp.its, letM, L2.atI, L2.ixN, q1, q2, dctW]
  | keep =>
    dsimp only [Stp.its] at e1
    obtain ⟨o, q1, q2⟩ := Option.map_eq_some_iff.mp (dgs "keep" (by simp) .non rfl)
    show _ = R.ok W.non h
    simp -dsimp [runF, d_Scheme_step_cost, startL, e1, et, pa, pd, Stp.its, letM, L2.atI, L2.ixN, q1, q2, dctW]
  | drop =>
    dsimp only [Stp.its] at e1
    obtain ⟨o, q1, q2⟩ := Option.map_eq_some_iff.mp (dgs "drop" (by simp) (.str m.drop) rfl)
    show _ = R.ok (W.str m.drop) h
    simp -dsimp [runF, d_Scheme_step_cost, startL, e1, et, pa, pd, Stp.its, letM, L2.atI, L2.ixN, q1, q2, dctW]
  | turn =>
    dsimp only [Stp.its] at e1
    obtain ⟨o, q1, q2⟩ := Option.map_eq_some_iff.mp (dgs "turn" (by simp) (opW m.turn) rfl)
    have ht : m.turn.isSome = true := hp
    obtain ⟨x, ex⟩ := Option.isSome_iff_exists.mp ht
    have eo : opW m.turn = .str x := by rw [ex]; rfl
    show _ = R.ok (opW m.turn) h
    rw [eo] at et q1 q2 ⊢
    simp -dsimp [runF, d_Scheme_step_cost, startL, e1, et, pa, pd, Stp.its, letM, L2.atI, L2.ixN, q1, q2, dctW]
  | swap c =>
    obtain ⟨a, rfl, ha, hac, hc⟩ := hp
    dsimp only [Stp.its] at e1
    have el := letter_T (k + 1) a h ha
    have es := swap_cost_ok k s a c ha hc hac
    obtain ⟨kn, e⟩ := s
    have em : metW (C (k + 3)).cn (.ref n) "swap_cost" h = some ("Scheme.swap_cost" : Str) := metW_of e rfl (met_Scheme_swap_cost _)
    have ca : callA (C (k + 3)).cn.call (C (k + 3)).cn.frm "Scheme.swap_cost" 3 [] [.ref n, T [a], T [c]] h = .ok (.str (swapN m a c)) h := by
      rw [callA_of (frm_Scheme_swap_cost_3_0 _) rfl]
      exact es
    have hac2 : ¬ (a = c) := hac
    show _ = R.ok (W.str (swapN m a c)) h
    simp -dsimp [runF, d_Scheme_step_cost, startL, e1, et, pa, pd, Stp.its, letM, L2.atI, L2.ixN, el, S_beq, hac2, em, ca]
end
end L08
set_option maxRecDepth 100000
set_option maxHeartbeats 4000000
namespace L08
open PySem PySem.Spec PyProof.Rows MP
theorem zip_enc {α β : Type} (f : α → W) (g : β → W) : ∀ (a : List α) (b : List β), zipW (a.map f) (b.map g) = (a.zip b).map fun p => .tup [f p.1, g p.2]
  | [], _ => rfl
  | _ :: _, [] => rfl
  | x :: xs, y :: ys => by rw [List.map_cons, List.map_cons, zipW, zip_enc f g xs ys]; rfl
theorem eq_opN (h : List O) (x : Str) (o : Option Str) : eqO h (.inr (.str x)) (.inr (opW o)) = some (eqN x o) := by
  cases o <;> rfl
section
variable {m : Mo} {n : Nat} {h : List O}
theorem counted_ok (k : Nat) (s : Sc m n h) (cs : List Int) (p : Stp × List Nat) (hp : okM m.turn.isSome p) (hn : m.names.length ≤ 100) : (C (k + 5)).cn.call "counted" [.ref n, tpI cs, .tup p.1.its, T p.2] h = .ok (tpI (addC m.names (costOf m p) cs)) h := by
  rw [call_counted]
  have e1 := step_cost_ok k s p hp
  have em : metW (C (k + 4)).cn (.ref n) "step_cost" h = some ("Scheme.step_cost" : Str) := by
    obtain ⟨kn, e⟩ := s
    exact metW_of e rfl (met_Scheme_step_cost _)
  have ca : callA (C (k + 4)).cn.call (C (k + 4)).cn.frm "Scheme.step_cost" 3 [] [.ref n, .tup p.1.its, letM p] h = .ok (opW (costOf m p)) h := by
    rw [callA_of (frm_Scheme_step_cost_3_0 _) rfl]
    exact e1
  have pc := pr_costs (k + 2) s
  have lc : lcLoop (lcBody (C (k + 4)).cn le_counted_0 lt_counted_0 .none [some (.ref n), some (tpI cs), some (.tup p.1.its), some (T p.2), some (opW (costOf m p)), none, none, none]) [] 0 (zipW (m.names.map .str) (cs.map .int)) h = .ok ((addC m.names (costOf m p) cs).map .int) h := by
    rw [zip_enc, lc_mapA (g := fun q : Str × Int => W.int (q.2 + (if eqN q.1 (costOf m p) = true then 1 else 0))) (fun q hq => by
      simp -dsimp [lcBody, seqW, eq_opN, intI]) (by
        have := List.length_zip (l₁ := m.names) (l₂ := cs)
        omega)]
    unfold addC
    rw [List.map_map]
    rfl
  obtain ⟨st, ls⟩ := p
  have e0 : ∃ x r, st.its = .str x :: r := by
    obtain ⟨x, r, e, _⟩ := dg_many h st
    exact ⟨x, r, e⟩
  cases st with
  | swap c =>
    have e2 : letM (Stp.swap c, ls) = T ls := rfl
    rw [e2] at ca
    dsimp only [Stp.its] at ca lc
    simp -dsimp [runF, d_counted, startL, em, ca, Stp.its, L2.atI, L2.ixN, pc, wipeL, lc]
  | keep =>
    have e2 : letM (Stp.keep, ls) = .non := rfl
    rw [e2] at ca
    dsimp only [Stp.its] at ca lc
    simp -dsimp [runF, d_counted, startL, em, ca, Stp.its, L2.atI, L2.ixN, pc, wipeL, lc]
  | drop =>
    have e2 : letM (Stp.drop, ls) = .non := rfl
    rw [e2] at ca
    dsimp only [Stp.its] at ca lc
    simp -dsimp [runF, d_counted, startL, em, ca, Stp.its, L2.atI, L2.ixN, pc, wipeL, lc]
  | turn =>
    have e2 : letM (Stp.turn, ls) = .non := rfl
    rw [e2] at ca
    dsimp only [Stp.its] at ca lc
    simp -dsimp [runF, d_counted, startL, em, ca, Stp.its, L2.atI, L2.ixN, pc, wipeL, lc]
  | add c =>
    have e2 : letM (Stp.add c, ls) = .non := rfl
    rw [e2] at ca
    dsimp only [Stp.its] at ca lc
    simp -dsimp [runF, d_counted, startL, em, ca, Stp.its, L2.atI, L2.ixN, pc, wipeL, lc]
theorem counts_for (k : Nat) (s : Sc m n h) (hn : m.names.length ≤ 100) (a b : W) : ∀ (ps : List (Stp × List Nat)) (cs : List Int) (o4 o5 : Option W), (∀ p ∈ ps, okM m.turn.isSome p) →
    ∃ o4' o5', forL (forBody (C (k + 5)) (.tup (.cons (.name 4) (.cons (.name 5) .nil))) fb_counts_of_0) [] (ps.map encM) [some (.ref n), some a, some b, some (tpI cs), o4, o5, none, none] h = .ok .nx [some (.ref n), some a, some b, some (tpI (ps.foldl (fun cs p => addC m.names (costOf m p) cs) cs)), o4', o5', none, none] h
  | [], cs, o4, o5, _ => ⟨o4, o5, rfl⟩
  | p :: ps, cs, o4, o5, hp => by
    have e1 := counted_ok k s cs p (hp p List.mem_cons_self) hn
    obtain ⟨o4', o5', ih⟩ := counts_for k s hn a b ps (addC m.names (costOf m p) cs) (some (.tup p.1.its)) (some (T p.2)) (fun q hq => hp q (List.mem_cons_of_mem _ hq))
    refine ⟨o4', o5', ?_⟩
    have eb : forBody (C (k + 5)) (.tup (.cons (.name 4) (.cons (.name 5) .nil))) fb_counts_of_0 (encM p) [some (.ref n), some a, some b, some (tpI cs), o4, o5, none, none] h = .ok .nx [some (.ref n), some a, some b, some (tpI (addC m.names (costOf m p) cs)), some (.tup p.1.its), some (T p.2), none, none] h := by
      simp -dsimp [forBody, encM, seqW, e1]
    rw [List.map_cons, for_cons, eb, turnS_nx, ih]
    rfl
theorem counts_of_yes (k : Nat) (s : Sc m n h) (l : List Nat) (w : W) (hl : l.length ≤ 6) (hs : l.all sm = true) (hw : okR h w = true) (hn : m.names.length ≤ 100) {ws : List W} {sts : List Stp} {t : List Nat} (r : Row h m.turn.isSome l w ws sts t) :
    (C (k + 8)).cn.call "counts_of" [.ref n, T l, w] h = .ok (tpI (countsR m (metS l sts 0))) h := by
  rw [call_counts_of]
  have e1 := need_row_yes k s l w hl hs hw r.read
  have hwl : ws.length ≤ 300 := by
    have z := hw
    unfold okR at z
    rw [r.its] at z
    simp only [Bool.and_eq_true, decide_eq_true_eq] at z
    exact z.2
  have e2 := met_ok (k + 6) h r (by omega) hwl
  have pc := pr_costs (k + 5) s
  have lc : lcLoop (lcBody (C (k + 7)).cn le_counts_of_0 lt_counts_of_0 .none [some (.ref n), some (T l), some w, none, none, none, none, none]) [] 0 (m.names.map .str) h = .ok ((m.names.map fun _ => (0 : Int)).map .int) h := by
    rw [lc_mapA (g := fun q : Str => W.int 0) (fun q hq => by simp -dsimp [lcBody]) (by omega), List.map_map]
    rfl
  obtain ⟨o4, o5, e3⟩ := counts_for (k + 2) s hn (T l) w (metS l sts 0) (m.names.map fun _ => 0) none none (metS_ok hs r.st r.rd)
  simp -dsimp [runF, d_counts_of, startL, e1, e2, pc, wipeL, lc, e3, countsR, -List.map_map]
/-! ### the row back, the row mirrored -/
def backS (p : Stp × List Nat) : W := match p.1 with
  | .add _ => .tup [.str "drop"]
  | .drop => .tup [.str "add", T p.2]
  | .swap _ => .tup [.str "swap", T p.2]
  | s => .tup s.its
theorem back_for (k : Nat) (h : List O) (a b c : W) : ∀ (ps : List (Stp × List Nat)) (acc : List W) (o4 o5 : Option W), acc.length + ps.length ≤ 900 →
    ∃ o4' o5', forL (forBody (C k) (.tup (.cons (.name 4) (.cons (.name 5) .nil))) fb_turned_back_0) [] (ps.map encM) [some a, some b, some c, some (.ref h.length), o4, o5] (h ++ [.lst acc]) = .ok .nx [some a, some b, some c, some (.ref h.length), o4', o5'] (h ++ [.lst (acc ++ ps.map backS)])
  | [], acc, o4, o5, _ => ⟨o4, o5, by
    show _ = RS.ok Fl.nx _ (h ++ [.lst (acc ++ [])])
    rw [List.append_nil]
    rfl⟩
  | p :: ps, acc, o4, o5, hl => by
    rw [List.length_cons] at hl
    obtain ⟨o4', o5', ih⟩ := back_for k h a b c ps (acc ++ [backS p]) (some (.tup p.1.its)) (some (T p.2)) (by simp; omega)
    refine ⟨o4', o5', ?_⟩
    have hh := get_last h (.lst acc)
    have ap := fun y => app_ref (y := y) hh (by omega)
    have il := isLst_ref hh
    have eb : forBody (C k) (.tup (.cons (.name 4) (.cons (.name 5) .nil))) fb_turned_back_0 (encM p) [some a, some b, some c, some (.ref h.length), o4, o5] (h ++ [.lst acc]) = .ok .nx [some a, some b, some c, some (.ref h.length), some (.tup p.1.its), some (T p.2)] (h ++ [.lst (acc ++ [backS p])]) := by
      obtain ⟨st, ls⟩ := p
      cases st <;> simp -dsimp [forBody, encM, seqW, Stp.its, L2.atI, L2.ixN, ap, il, sz, backS]
    rw [List.map_cons, for_cons, eb, turnS_nx, ih, List.map_cons, List.append_assoc]
    rfl
theorem backS_cls (ps : List (Stp × List Nat)) : MP.cls (ps.map backS) = true := by
  rw [MP.cls_all, List.all_map]
  refine List.all_eq_true.mpr fun p _ => ?_
  obtain ⟨st, ls⟩ := p
  cases st <;> rfl
theorem back_yes (k : Nat) (s : Sc m n h) (l : List Nat) (w : W) (hl : l.length ≤ 6) (hs : l.all sm = true) (hw : okR h w = true) {ws : List W} {sts : List Stp} {t : List Nat} (r : Row h m.turn.isSome l w ws sts t) :
    (C (k + 8)).cn.call "turned_back" [.ref n, T l, w] h = .ok (.ref h.length) (h ++ [.lst ((metS l sts 0).map backS)]) := by
  rw [call_turned_back, runF_of rfl]
  have e1 := need_row_yes k s l w hl hs hw r.read
  have hwl : ws.length ≤ 300 := by
    have z := hw
    unfold okR at z
    rw [r.its] at z
    simp only [Bool.and_eq_true, decide_eq_true_eq] at z
    exact z.2
  have e2 := met_ok (k + 6) (h ++ [O.lst []]) (r.app [O.lst []]) (by omega) hwl
  have hml : ∀ (sts : List Stp) (i : Nat), (metS l sts i).length = sts.length := by
    intro sts
    induction sts with
    | nil => intro i; rfl
    | cons s ss ih => intro i; rw [metS, List.length_cons, List.length_cons, ih]
  have hsl : sts.length = ws.length := by
    have := congrArg List.length r.st
    simpa using this.symm
  obtain ⟨o4, o5, e3⟩ := back_for (k + 7) h (.ref n) (T l) w (metS l sts 0) [] none none (by rw [hml]; simp; omega)
  simp -dsimp at e3
  have q : endF (evSs (C (k + 7)) d_turned_back.body (startL d_turned_back.N.length [.ref n, T l, w]) h) = .ok (.ref h.length) (h ++ [O.lst ((metS l sts 0).map backS)]) := by
    simp -dsimp [d_turned_back, startL, sz, e1, e2, e3]
  rw [q]
  rfl
theorem mirror_yes (k : Nat) (s : Sc m n h) (l : List Nat) (w : W) (hl : l.length ≤ 6) (hs : l.all sm = true) (hw : okR h w = true) {ws : List W} {sts : List Stp} {t : List Nat} (r : Row h m.turn.isSome l w ws sts t) (ei : its? w = some ws) :
    (C (k + 8)).cn.call "mirrored" [.ref n, T l, w] h = .ok (.ref h.length) (h ++ [.lst ((sts.map fun s => W.tup s.its).reverse)]) := by
  rw [call_mirrored]
  have e1 := need_row_yes k s l w hl hs hw r.read
  have hwl : ws.length ≤ 300 := by
    have z := hw
    unfold okR at z
    rw [r.its] at z
    simp only [Bool.and_eq_true, decide_eq_true_eq] at z
    exact z.2
  have lc : ∀ (ws : List W) (sts : List Stp) (j : Nat), ws.map stepOf = sts.map some → j + ws.length ≤ 900 → lcLoop (lcBody (C (k + 7)).cn le_mirrored_0 lt_mirrored_0 .none [some (.ref n), some (T l), some w, none, none]) [] j ws h = .ok (sts.map fun s => W.tup s.its) h := by
    intro ws
    induction ws with
    | nil =>
      intro sts j e _
      cases sts with
      | nil => rfl
      | cons _ _ => cases e
    | cons x ws ih =>
      intro sts j e hj
      cases sts with
      | nil => cases e
      | cons s ss =>
        rw [List.map_cons, List.map_cons] at e
        injection e with h1 h2
        rw [List.length_cons] at hj
        obtain ⟨ei, _⟩ := stepOf_its h1
        have es := seqR_its h ei
        have ih2 := ih ss (j + 1) h2 (by omega)
        rw [lc_step]
        simp -dsimp [lcBody, es, ih2, sz2 (show j < 1000 by omega)]
  have lc0 := lc ws sts 0 r.st (by omega)
  have eso := so_its true h ei
  simp -dsimp [runF, d_mirrored, startL, e1, eso, wipeL, lc0]
end
end L08
set_option maxRecDepth 100000
set_option maxHeartbeats 4000000
namespace L08
open PySem PySem.Spec PyProof.Rows MP
/-! ### a scheme is made -/
theorem in_strsR {h : List O} {n : Nat} {x : Str} {ys : List Str} (e : h[n]? = some (.lst (ys.map .str))) : inO h (.inr (.str x)) (.inr (.ref n)) = some (decide (x ∈ ys)) := by
  rw [← in_strs (h := h)]
  have es : seqW h (.ref n) = some (ys.map .str) := by
    unfold seqW
    dsimp only
    rw [e]
  show (match seqW h (.ref n) with
    | some ws => if (flatW (.str x) && ws.all flatW) = true then some (ws.any fun z => eqF z (.str x)) else none
    | none => none) = _
  rw [es]
  rfl
theorem T_eta (x : Str) : T x.cps.toList = .str x := congrArg W.str (S_eta x)
theorem seqR_ref {h : List O} {n : Nat} {ws : List W} (e : h[n]? = some (.lst ws)) : seqR h (.ref n) = .ok ws h := by
  have es : seqW h (.ref n) = some ws := by
    unfold seqW
    dsimp only
    rw [e]
  unfold seqR
  rw [es]
/-- names of costs -/
def okN (x : Str) : Bool := decide (1 ≤ x.cps.toList.length ∧ x.cps.toList.length ≤ 8) && x.cps.toList.all sm
theorem costs_for (k : Nat) (h : List O) (a : W) : ∀ (ns acc : List Str) (o : Option W), (∀ x ∈ ns, okN x = true) → (acc ++ ns).Nodup → acc.length + ns.length ≤ 100 →
    ∃ o', forL (forBody (C (k + 2)) (.name 2) fb_checked_costs_0) [] (ns.map .str) [some a, some (.ref h.length), o] (h ++ [.lst (acc.map .str)]) = .ok .nx [some a, some (.ref h.length), o'] (h ++ [.lst ((acc ++ ns).map .str)])
  | [], acc, o, _, _, _ => ⟨o, by
    show _ = RS.ok Fl.nx _ (h ++ [.lst ((acc ++ []).map .str)])
    rw [List.append_nil]
    rfl⟩
  | x :: ns, acc, o, hn, hd, hl => by
    rw [List.length_cons] at hl
    have hx := hn x List.mem_cons_self
    have hl8 : x.cps.toList.length ≤ 8 := by
      unfold okN at hx
      simp only [Bool.and_eq_true, decide_eq_true_eq] at hx
      exact hx.1.2
    have e1 := name_T k x.cps.toList (h ++ [O.lst (acc.map .str)]) (by omega)
    have hx' : (decide (1 ≤ x.cps.toList.length ∧ x.cps.toList.length ≤ 8) && x.cps.toList.all sm) = true := hx
    rw [hx', T_eta] at e1
    have hh := get_last h (.lst (acc.map W.str))
    have e2 := in_strsR (x := x) hh
    have hni : x ∉ acc := fun z => by
      have := List.nodup_append.mp hd
      exact this.2.2 x z x List.mem_cons_self rfl
    have ap := app_ref (y := .str x) hh (by rw [List.length_map]; omega)
    have il := isLst_ref hh
    have ea : acc ++ x :: ns = (acc ++ [x]) ++ ns := by simp
    obtain ⟨o', ih⟩ := costs_for k h a ns (acc ++ [x]) (some (.str x)) (fun y hy => hn y (List.mem_cons_of_mem _ hy)) (by rw [← ea]; exact hd) (by simp; omega)
    refine ⟨o', ?_⟩
    have eb : forBody (C (k + 2)) (.name 2) fb_checked_costs_0 (.str x) [some a, some (.ref h.length), o] (h ++ [.lst (acc.map .str)]) = .ok .nx [some a, some (.ref h.length), some (.str x)] (h ++ [.lst ((acc ++ [x]).map .str)]) := by
      simp -dsimp [forBody, e1, e2, hni, ap, il, -MP.in_str]
    rw [List.map_cons, for_cons, eb, turnS_nx, ih, ea]
theorem checked_costs_ok (k : Nat) (h : List O) (ns : List Str) (hn : ∀ x ∈ ns, okN x = true) (hd : ns.Nodup) (h1 : 1 ≤ ns.length) (h4 : ns.length ≤ 4) :
    (C (k + 3)).cn.call "checked_costs" [.slst (ns.map .str)] h = .ok (.tup (ns.map .str)) h := by
  rw [call_checked_costs, runF_of rfl]
  have e1 : (C (k + 2)).cn.call "is_list" [.slst (ns.map .str)] h = .ok (.bl true) h := list_nr (k + 1) (w := .slst (ns.map .str)) h rfl
  obtain ⟨o', e2⟩ := costs_for k h (.slst (ns.map .str)) ns [] none hn hd (by simp; omega)
  rw [List.nil_append] at e2
  have e2' : forL (forBody (C (k + 2)) (.name 2) fb_checked_costs_0) [] (ns.map .str) [some (.slst (ns.map .str)), some (.ref h.length), none] (h ++ [.lst []]) = _ := e2
  have c1 : (1 : Int) ≤ ns.length := by omega
  have c4 : (ns.length : Int) ≤ 4 := by omega
  have es := seqR_ref (get_last h (.lst (ns.map W.str)))
  have q : endF (evSs (C (k + 2)) d_checked_costs.body (startL d_checked_costs.N.length [.slst (ns.map .str)]) h) = .ok (.tup (ns.map .str)) (h ++ [.lst (ns.map .str)]) := by
    simp -dsimp [d_checked_costs, startL, sz, e1, e2', c1, c4, es]
  rw [q, show d_checked_costs.gc = true from rfl, gcF_t, gcR_cl]
  show MP.cls _ = true
  rw [MP.cls_all, List.all_map]
  exact List.all_eq_true.mpr fun _ _ => rfl
/-- an instance that has its costs -/
def Cs (ns : List Str) (n : Nat) (h : List O) : Prop := ∃ fs, h[n]? = some (.ins "Scheme" fs) ∧ fs.lookup ("own_costs" : Str) = some (.tup (ns.map .str)) ∧ fs.lookup ("__contains__" : Str) = none ∧ fs.lookup ("checked_groups" : Str) = none
theorem contains_ok (k : Nat) {ns : List Str} {n : Nat} {h : List O} (c : Cs ns n h) (x : Str) : spcW (C (k + 2)).cn (.ref n) "__contains__" [.str x] h = .ok (.bl (decide (x ∈ ns))) h := by
  obtain ⟨fs, e, e1, e2, _⟩ := c
  have ea : attW (C k).cn (.ref n) "own_costs" h = .ok (.tup (ns.map .str)) h := attW_of e (by simp) e1
  rw [spcW_of (ws := [.str x]) e e2 (met_Scheme___contains__ _) (frm_Scheme___contains___2_0 _), ini_Scheme___contains__]
  have ei := in_strsT (h := h) (x := x) (ys := ns)
  simp -dsimp [runF, d_Scheme___contains__, startL, arr, isx_str, ea, ei, -MP.in_str]
/-! ### groups -/
/-- a text's letters, sorted -/
def sl (l : List Nat) : List Nat := (Txt.join "" (srtL (chS (S l)))).cps.toList
theorem sing_chS (l : List Nat) : chS (S l) = l.map fun c => S [c] := by
  unfold chS
  simp
theorem tl_sl (l : List Nat) : ∃ cs : List Nat, sl l = cs ∧ cs.Perm l ∧ srtL (chS (S l)) = cs.map fun c => S [c] := by
  have p : (srtL (chS (S l))).Perm (l.map fun c => S [c]) := by
    rw [← sing_chS]
    exact List.mergeSort_perm _ _
  obtain ⟨cs, e1, e2⟩ : ∃ cs : List Nat, srtL (chS (S l)) = cs.map (fun c => S [c]) ∧ cs.Perm l := by
    generalize srtL (chS (S l)) = xs at p
    have key : ∀ (xs : List Str) (l : List Nat), xs.Perm (l.map fun c => S [c]) → ∃ cs : List Nat, xs = cs.map (fun c => S [c]) ∧ cs.Perm l := by
      intro xs
      induction xs with
      | nil =>
        intro l p
        have := p.length_eq
        simp at this
        have hl : l = [] := List.length_eq_zero_iff.mp this.symm
        subst hl
        exact ⟨[], rfl, .refl _⟩
      | cons x xs ih =>
        intro l p
        have hx : x ∈ l.map fun c => S [c] := p.mem_iff.mp List.mem_cons_self
        obtain ⟨c, hc, rfl⟩ := List.mem_map.mp hx
        have p2 := (List.perm_cons_erase hc)
        have p3 : (S [c] :: xs).Perm (S [c] :: (l.erase c).map fun c => S [c]) := p.trans (by simpa using p2.map fun c => S [c])
        obtain ⟨cs, e1, e2⟩ := ih (l.erase c) (List.Perm.cons_inv p3)
        exact ⟨c :: cs, by rw [e1]; rfl, (List.Perm.cons c e2).trans p2.symm⟩
    exact key xs l p
  refine ⟨cs, ?_, e2, e1⟩
  unfold sl
  rw [e1]
  have e := TL.tl_join (Str.ofString "") (cs.map fun c => (⟨#[c]⟩ : Str))
  rw [TL.join_eq]
  refine Eq.trans e ?_
  rw [List.map_map]
  have j1 : ∀ cs : List Nat, TL.joinL [] (cs.map fun c => [c]) = cs := by
    intro cs
    induction cs with
    | nil => rfl
    | cons c cs ih =>
      cases cs with
      | nil => rfl
      | cons d ds =>
        show [c] ++ ([] ++ TL.joinL [] ((d :: ds).map fun c => [c])) = _
        rw [ih]; rfl
  exact j1 cs
theorem mem_sl {l : List Nat} {c : Nat} : c ∈ sl l ↔ c ∈ l := by
  obtain ⟨cs, e, p, _⟩ := tl_sl l
  rw [e]
  exact p.mem_iff
theorem len_sl {l : List Nat} : (sl l).length = l.length := by
  obtain ⟨cs, e, p, _⟩ := tl_sl l
  rw [e]
  exact p.length_eq
end L08
set_option maxRecDepth 100000
set_option maxHeartbeats 4000000
namespace L08
open PySem PySem.Spec PyProof.Rows MP
theorem Cs.app {ns : List Str} {n : Nat} {h : List O} (c : Cs ns n h) (o : List O) : Cs ns n (h ++ o) := by
  obtain ⟨fs, e, r⟩ := c
  exact ⟨fs, by rw [List.getElem?_append_left (List.getElem?_eq_some_iff.mp e).1]; exact e, r⟩
def okGs (ns : List Str) : List (List Nat × Str) → List Nat → Bool
  | [], _ => true
  | g :: gs, tk => decide (2 ≤ g.1.length ∧ g.1.length ≤ 26) && (g.1.all sm && (decide g.1.Nodup && (g.1.all (fun c => decide (c ∉ tk)) && (decide (g.2 ∈ ns) && okGs ns gs (tk ++ sl g.1)))))
abbrev encG (g : List Nat × Str) : W := .tup [T g.1, .str g.2]
theorem unStrs_str : ∀ xs : List Str, unStrs (xs.map .str) = some xs
  | [] => rfl
  | x :: xs => by rw [List.map_cons, unStrs, unStrs_str xs]; rfl
theorem join_sl (h : List O) {l : List Nat} (hl : l.length ≤ 60) : srtO h (.inr (T l)) = .ok ((srtL (chS (S l))).map .str) h ∧ joinR (Str.ofString "") ((srtL (chS (S l))).map .str) h = .ok (T (sl l)) h := by
  constructor
  · show chk (decide ((S l).cps.size < 64)) _ = _
    rw [decide_eq_true (show (S l).cps.size < 64 from by simp; omega), chk_true]
  · obtain ⟨cs, e0, p, e⟩ := tl_sl l
    unfold joinR
    rw [unStrs_str]
    have hlen : ((srtL (chS (S l))).map (·.length)).sum + (srtL (chS (S l))).length * (Str.ofString "").length ≤ 16777216 := by
      rw [e, List.map_map]
      have h1 : (cs.map ((fun x : Str => x.length) ∘ fun c => S [c])).sum = cs.length := by
        clear p e e0
        induction cs with
        | nil => rfl
        | cons c cs ih =>
          rw [List.map_cons, List.sum_cons, ih, List.length_cons]
          show 1 + _ = _
          omega
      rw [h1, p.length_eq]
      have : (Str.ofString "").length = 0 := rfl
      rw [this]
      omega
    show chk (decide (_ ≤ 16777216)) _ = _
    rw [decide_eq_true hlen, chk_true]
    show R.ok (W.str _) h = _
    congr 2
theorem dct_nd : ∀ (r pre : List Str), (∀ x ∈ r, x ∉ pre) → r.Nodup → dctFrom pre r = r.length
  | [], _, _, _ => rfl
  | x :: r, pre, hp, hd => by
    obtain ⟨d1, d2⟩ := List.nodup_cons.mp hd
    have h1 : (pre.any (· == x)) = false := by
      rw [List.any_eq_false]
      intro y hy z
      have := beq_iff_eq.mp z
      subst this
      exact hp y List.mem_cons_self hy
    rw [dctFrom, h1, if_neg Bool.false_ne_true, dct_nd r (pre ++ [x]) (fun y hy z => ?_) d2, List.length_cons]
    · omega
    · rcases List.mem_append.mp z with z | z
      · exact hp y (List.mem_cons_of_mem _ hy) z
      · rw [List.mem_singleton] at z
        subst z
        exact d1 hy
theorem dct_S {l : List Nat} (h : l.Nodup) : dctFrom [] (chS (S l)) = l.length := by
  rw [sing_chS, dct_nd _ _ (fun _ _ => by simp), List.length_map]
  exact List.pairwise_map.mpr (List.Pairwise.imp (fun hab e => hab (by
    have := S_inj.mp e
    simpa using this)) h)
section
variable {ns : List Str} {p : Nat}
theorem groups_for (k : Nat) (h : List O) (a : W) (cc : Cs ns p h) : ∀ (gs : List (List Nat × Str)) (acc : List W) (tk : List Nat) (o4 o5 : Option W), okGs ns gs tk = true → acc.length + gs.length ≤ 30 → tk.length + 26 * gs.length ≤ 900 →
    ∃ tk' o4' o5', forL (forBody (C (k + 3)) (.name 4) fb_Scheme_checked_groups_0) [] (gs.map encG) [some (.ref p), some a, some (.ref h.length), some (T tk), o4, o5, none, none] (h ++ [.lst acc]) = .ok .nx [some (.ref p), some a, some (.ref h.length), some (T tk'), o4', o5', none, none] (h ++ [.lst (acc ++ gs.map fun g => encG (sl g.1, g.2))])
  | [], acc, tk, o4, o5, _, _, _ => ⟨tk, o4, o5, by
    show _ = RS.ok Fl.nx _ (h ++ [.lst (acc ++ [])])
    rw [List.append_nil]
    rfl⟩
  | g :: gs, acc, tk, o4, o5, hg, hl, ht => by
    obtain ⟨gl, gc⟩ := g
    rw [List.length_cons] at hl ht
    unfold okGs at hg
    simp only [Bool.and_eq_true, decide_eq_true_eq] at hg
    obtain ⟨⟨g1, g2⟩, g3, g4, g5, g6, g7⟩ := hg
    have hh := get_last h (.lst acc)
    have ap := fun y => app_ref (y := y) hh (by omega)
    have il := isLst_ref hh
    have e1 : (C (k + 3)).cn.call "is_row_words" [encG (gl, gc), .int 2] (h ++ [O.lst acc]) = .ok (.bl true) (h ++ [O.lst acc]) := by
      rw [call_is_row_words]
      have := list_nr (k + 1) (w := encG (gl, gc)) (h ++ [O.lst acc]) rfl
      simp -dsimp [its?] at this
      simp -dsimp [runF, d_is_row_words, startL, this]
    have e2 := spelled_T (k + 2) gl 2 26 (h ++ [O.lst acc]) (by omega)
    rw [decide_eq_true (show 2 ≤ gl.length ∧ gl.length ≤ 26 from ⟨g1, g2⟩), g3] at e2
    obtain ⟨e3, e4⟩ := join_sl (h ++ [O.lst acc]) (l := gl) (by omega)
    have e5 : p1R .lset (.inr (T gl)) (h ++ [O.lst acc]) = .ok (.int gl.length) (h ++ [O.lst acc]) := by
      show chk (decide ((S gl).cps.size < 1000)) (R.ok (W.int (dctFrom [] (chS (S gl)))) (h ++ [O.lst acc])) = _
      rw [decide_eq_true (show (S gl).cps.size < 1000 from by simp; omega), chk_true, dct_S g4]
    have e6 := len_T (h ++ [O.lst acc]) (a := sl gl) (by rw [len_sl]; omega)
    rw [len_sl] at e6
    have lc : ∀ o7, lcLoop (lcBody (C (k + 3)).cn le_Scheme_checked_groups_0 lt_Scheme_checked_groups_0 .none [some (.ref p), some a, some (.ref h.length), some (T tk), some (encG (gl, gc)), some (T (sl gl)), none, o7]) [] 0 (chars (S (sl gl))) (h ++ [O.lst acc]) = .ok ((sl gl).map fun c => .bl (decide (c ∈ tk))) (h ++ [O.lst acc]) := by
      intro o7
      rw [S_chars, lc_mapA (g := fun c => .bl (decide (c ∈ tk))) (fun c hc => by
        have i1 := in_T (h ++ [O.lst acc]) c (S tk)
        have ec : (S tk).cps.toList = tk := by simp
        rw [ec] at i1
        simp -dsimp [lcBody, i1, -MP.in_str]) (by rw [len_sl]; omega)]
    have an : (sl gl).any (fun c => decide (c ∈ tk)) = false := by
      rw [List.any_eq_false]
      intro c hc z
      have := List.all_eq_true.mp g5 c (mem_sl.mp hc)
      exact of_decide_eq_true this (of_decide_eq_true z)
    have cn := contains_ok (k + 1) (cc.app [O.lst acc]) gc
    rw [decide_eq_true g6] at cn
    have ad := add_T (h ++ [O.lst acc]) (a := tk) (b := sl gl) (by rw [len_sl]; omega)
    have hlt : ¬ ((gl.length : Int) < (gl.length : Int)) := by omega
    obtain ⟨tk', o4', o5', ih⟩ := groups_for k h a cc gs (acc ++ [encG (sl gl, gc)]) (tk ++ sl gl) (some (encG (gl, gc))) (some (T (sl gl))) g7 (by simp; omega) (by rw [List.length_append, len_sl]; omega)
    refine ⟨tk', o4', o5', ?_⟩
    have eb : forBody (C (k + 3)) (.name 4) fb_Scheme_checked_groups_0 (encG (gl, gc)) [some (.ref p), some a, some (.ref h.length), some (T tk), o4, o5, none, none] (h ++ [.lst acc]) = .ok .nx [some (.ref p), some a, some (.ref h.length), some (T (tk ++ sl gl)), some (encG (gl, gc)), some (T (sl gl)), none, none] (h ++ [.lst (acc ++ [encG (sl gl, gc)])]) := by
      simp -dsimp at e2
      simp -dsimp [forBody, e1, e2, e3, e4, e5, e6, L2.atI, L2.ixN, wipeL, lc, an, any_bl', cn, notI, ad, ap, il, hlt, sz, -MP.b_addS]
    rw [List.map_cons, for_cons, eb, turnS_nx, ih, List.map_cons, List.append_assoc]
    rfl
theorem checked_groups_ok (k : Nat) (h : List O) (cc : Cs ns p h) (gs : List (List Nat × Str)) (hg : okGs ns gs [] = true) (hl : gs.length ≤ 20) :
    (C (k + 4)).cn.call "Scheme.checked_groups" [.ref p, .slst (gs.map encG)] h = .ok (.tup (gs.map fun g => encG (sl g.1, g.2))) h := by
  rw [call_Scheme_checked_groups, runF_of rfl]
  have e1 : (C (k + 3)).cn.call "is_list" [.slst (gs.map encG)] h = .ok (.bl true) h := list_nr (k + 2) (w := .slst (gs.map encG)) h rfl
  obtain ⟨tk', o4', o5', e2⟩ := groups_for k h (.slst (gs.map encG)) cc gs [] [] none none hg (by simp; omega) (by simp; omega)
  rw [List.nil_append] at e2
  have em : W.str "" = T [] := rfl
  have es := seqR_ref (get_last h (.lst (gs.map fun g => encG (sl g.1, g.2))))
  have q : endF (evSs (C (k + 3)) d_Scheme_checked_groups.body (startL d_Scheme_checked_groups.N.length [.ref p, .slst (gs.map encG)]) h) = .ok (.tup (gs.map fun g => encG (sl g.1, g.2))) (h ++ [.lst (gs.map fun g => encG (sl g.1, g.2))]) := by
    simp -dsimp [d_Scheme_checked_groups, startL, sz, e1, seqW, em, e2, es]
  rw [q, show d_Scheme_checked_groups.gc = true from rfl, gcF_t, gcR_cl]
  show MP.cls _ = true
  rw [MP.cls_all, List.all_map]
  exact List.all_eq_true.mpr fun _ _ => rfl
end
end L08
set_option maxRecDepth 100000
set_option maxHeartbeats 4000000
namespace L08
open PySem PySem.Spec PyProof.Rows MP
def okMo (m : Mo) : Bool := m.names.all okN && (decide m.names.Nodup && (decide (1 ≤ m.names.length ∧ m.names.length ≤ 4) && (decide (m.add ∈ m.names) && (decide (m.drop ∈ m.names) && (decide (m.swap ∈ m.names) && (okGs m.names m.groups [] && (decide (m.groups.length ≤ 20) && (match m.turn with
  | none => true
  | some t => decide (t ∈ m.names)))))))))
/-- as the scheme holds it -/
def sch (m : Mo) : Mo := { m with groups := m.groups.map fun g => (sl g.1, g.2) }
def moW (m : Mo) : W := .tup [.slst (m.names.map .str), .str m.add, .str m.drop, .str m.swap, .slst (m.groups.map encG), opW m.turn]
theorem sat_last (C : Cn) (h : List O) (c f : Str) (fs : List (Str × W)) (w : W) (ha : C.att c f = true) (hl : fs.length < 1000) : satW C (.ref h.length) f w (h ++ [.ins c fs]) = .ok () (h ++ [.ins c (putFW f w fs)]) := by
  rw [satW_of (get_last h _) ha hl, set_last]
theorem init_for (k : Nat) (ℓ : Lo) {ns : List Str} {p : Nat} {h : List O} (cc : Cs ns p h) (a b c d e f : Option W) : ∀ (xs : List Str) (o : Option W), (∀ x ∈ xs, x ∈ ns) → ∃ o', forL (forBody (C (k + 2)) (.name 7) fb_Scheme___init___0) [] (xs.map .str) [some (.ref p), a, b, c, d, e, f, o] h = .ok .nx [some (.ref p), a, b, c, d, e, f, o'] h
  | [], o, _ => ⟨o, rfl⟩
  | x :: xs, o, hx => by
    have cn := contains_ok k cc x
    rw [decide_eq_true (hx x List.mem_cons_self)] at cn
    obtain ⟨o', ih⟩ := init_for k ℓ cc a b c d e f xs (some (.str x)) (fun y hy => hx y (List.mem_cons_of_mem _ hy))
    refine ⟨o', ?_⟩
    have eb : forBody (C (k + 2)) (.name 7) fb_Scheme___init___0 (.str x) [some (.ref p), a, b, c, d, e, f, o] h = .ok .nx [some (.ref p), a, b, c, d, e, f, some (.str x)] h := by
      simp -dsimp [forBody, cn, notI]
    rw [List.map_cons, for_cons, eb, turnS_nx, ih]
theorem init_ok (k : Nat) (h : List O) (m : Mo) (hm : okMo m = true) : (C (k + 6)).cn.ini "Scheme.__init__" [.ref h.length, .slst (m.names.map .str), .str m.add, .str m.drop, .str m.swap, .slst (m.groups.map encG), opW m.turn] (h ++ [.ins "Scheme" []]) = .ok .non (h ++ [schO (sch m) (.sdct [])]) := by
  unfold okMo at hm
  simp only [Bool.and_eq_true, decide_eq_true_eq] at hm
  obtain ⟨m1, m2, m3, m4, m5, m6, m7, m8, m9⟩ := hm
  rw [ini_Scheme___init__]
  have e1 := checked_costs_ok (k + 1) (h ++ [O.ins "Scheme" []]) m.names (fun x hx => List.all_eq_true.mp m1 x hx) m2 m3.1 m3.2
  have s1 := sat_last (C (k + 4)).cn h "Scheme" "own_costs" [] (.tup (m.names.map .str)) (att_Scheme_own_costs _) (by simp)
  have c1 : Cs m.names h.length (h ++ [O.ins "Scheme" (putFW "own_costs" (.tup (m.names.map .str)) [])]) := ⟨_, get_last _ _, rfl, rfl, rfl⟩
  obtain ⟨o', f1⟩ := init_for (k + 2) [] c1 (some (.slst (m.names.map .str))) (some (.str m.add)) (some (.str m.drop)) (some (.str m.swap)) (some (.slst (m.groups.map encG))) (some (opW m.turn)) [m.add, m.drop, m.swap] none (by simp [m4, m5, m6])
  have s2 := sat_last (C (k + 4)).cn h "Scheme" "own_edits" (putFW "own_costs" (.tup (m.names.map .str)) []) (.tup [.str m.add, .str m.drop, .str m.swap]) (att_Scheme_own_edits _) (by show 1 < 1000; omega)
  have c2 : Cs m.names h.length (h ++ [O.ins "Scheme" (putFW "own_edits" (.tup [.str m.add, .str m.drop, .str m.swap]) (putFW "own_costs" (.tup (m.names.map .str)) []))]) := ⟨_, get_last _ _, rfl, rfl, rfl⟩
  have e2 := checked_groups_ok k _ c2 m.groups m7 m8
  have em : metW (C (k + 4)).cn (.ref h.length) "checked_groups" (h ++ [O.ins "Scheme" (putFW "own_edits" (.tup [.str m.add, .str m.drop, .str m.swap]) (putFW "own_costs" (.tup (m.names.map .str)) []))]) = some ("Scheme.checked_groups" : Str) := metW_of (get_last _ _) rfl (met_Scheme_checked_groups _)
  have ca := callA_of (call := (C (k + 4)).cn.call) (ws := [.ref h.length, .slst (m.groups.map encG)]) (h := h ++ [O.ins "Scheme" (putFW "own_edits" (.tup [.str m.add, .str m.drop, .str m.swap]) (putFW "own_costs" (.tup (m.names.map .str)) []))]) (frm_Scheme_checked_groups_2_0 (k + 4)) rfl
  have ca2 : callA (C (k + 4)).cn.call (C (k + 4)).cn.frm "Scheme.checked_groups" 2 [] [.ref h.length, .slst (m.groups.map encG)] (h ++ [O.ins "Scheme" (putFW "own_edits" (.tup [.str m.add, .str m.drop, .str m.swap]) (putFW "own_costs" (.tup (m.names.map .str)) []))]) = _ := ca.trans e2
  have s3 := sat_last (C (k + 4)).cn h "Scheme" "own_groups" (putFW "own_edits" (.tup [.str m.add, .str m.drop, .str m.swap]) (putFW "own_costs" (.tup (m.names.map .str)) [])) (.tup (m.groups.map fun g => encG (sl g.1, g.2))) (att_Scheme_own_groups _) (by show 2 < 1000; omega)
  have c3 : Cs m.names h.length (h ++ [O.ins "Scheme" (putFW "own_groups" (.tup (m.groups.map fun g => encG (sl g.1, g.2))) (putFW "own_edits" (.tup [.str m.add, .str m.drop, .str m.swap]) (putFW "own_costs" (.tup (m.names.map .str)) [])))]) := ⟨_, get_last _ _, rfl, rfl, rfl⟩
  have s4 := sat_last (C (k + 4)).cn h "Scheme" "own_turn" (putFW "own_groups" (.tup (m.groups.map fun g => encG (sl g.1, g.2))) (putFW "own_edits" (.tup [.str m.add, .str m.drop, .str m.swap]) (putFW "own_costs" (.tup (m.names.map .str)) []))) (opW m.turn) (att_Scheme_own_turn _) (by show 3 < 1000; omega)
  have s5 := sat_last (C (k + 4)).cn h "Scheme" "own_known" (putFW "own_turn" (opW m.turn) (putFW "own_groups" (.tup (m.groups.map fun g => encG (sl g.1, g.2))) (putFW "own_edits" (.tup [.str m.add, .str m.drop, .str m.swap]) (putFW "own_costs" (.tup (m.names.map .str)) [])))) (.sdct []) (att_Scheme_own_known _) (by show 4 < 1000; omega)
  have ef : putFW "own_known" (.sdct []) (putFW "own_turn" (opW m.turn) (putFW "own_groups" (.tup (m.groups.map fun g => encG (sl g.1, g.2))) (putFW "own_edits" (.tup [.str m.add, .str m.drop, .str m.swap]) (putFW "own_costs" (.tup (m.names.map .str)) [])))) = ([("own_costs", .tup (m.names.map .str)), ("own_edits", .tup [.str m.add, .str m.drop, .str m.swap]), ("own_groups", .tup (m.groups.map fun g => encG (sl g.1, g.2))), ("own_turn", opW m.turn), ("own_known", .sdct [])] : List (Str × W)) := rfl
  have er : schO (sch m) (.sdct []) = .ins "Scheme" [("own_costs", .tup (m.names.map .str)), ("own_edits", .tup [.str m.add, .str m.drop, .str m.swap]), ("own_groups", .tup (m.groups.map fun g => encG (sl g.1, g.2))), ("own_turn", opW m.turn), ("own_known", .sdct [])] := by
    unfold schO sch
    dsimp only
    rw [List.map_map]
    rfl
  have eg : ∀ h : List O, seqO true h (.inl [.str m.add, .str m.drop, .str m.swap]) = .ok ([m.add, m.drop, m.swap].map .str, []) h := fun _ => rfl
  rw [er]
  rw [ef] at s5
  simp only [List.map_cons, List.map_nil] at f1
  cases ht : m.turn with
  | none =>
    have eo : opW none = .non := rfl
    rw [ht, eo] at s4 s5 f1
    rw [eo]
    simp -dsimp [runF, d_Scheme___init__, startL, e1, s1, f1, s2, em, ca2, s3, s4, s5, sz, mergeW]
  | some t =>
    have eo : opW (some t) = .str t := rfl
    rw [ht] at m9
    have cn := contains_ok (k + 2) c3 t
    have m9' : decide (t ∈ m.names) = true := m9
    rw [m9'] at cn
    rw [ht, eo] at s4 s5 f1
    rw [eo]
    simp -dsimp [runF, d_Scheme___init__, startL, e1, s1, f1, s2, em, ca2, s3, s4, s5, sz, mergeW, cn, notI]
theorem made_ok (k : Nat) (h : List O) (m : Mo) (hm : okMo m = true) : (C (k + 7)).cn.call "_law_made" [moW m] h = .ok (.ref h.length) (h ++ [schO (sch m) (.sdct [])]) := by
  rw [call__law_made]
  have e1 := init_ok k h m hm
  have e2 := newW_of (C := (C (k + 6)).cn) (c := "Scheme") (k := 2) (ws := [.slst (m.names.map .str), .str m.add, .str m.drop, .str m.swap, .slst (m.groups.map encG), opW m.turn]) (frm_Scheme___init___2_5 (k + 6)) rfl e1
  simp -dsimp [runF, d__law_made, startL, moW, L2.atI, L2.ixN, e2]
theorem sc_made (h o : List O) (m : Mo) (kn : W) : Sc m h.length (h ++ schO m kn :: o) := ⟨kn, by simp⟩
end L08
set_option maxRecDepth 100000
set_option maxHeartbeats 4000000
namespace L08
open PySem PySem.Spec PyProof.Rows MP
/-! ### the law's own reading -/
def oneC (ns : List Str) (o : Option Str) : List Int := ns.map fun x => if eqN x o = true then 1 else 0
theorem one_ok (k : Nat) (m : Mo) (o : Option Str) (h : List O) (hn : m.names.length ≤ 100) : (C (k + 1)).cn.call "_law_one" [moW m, opW o] h = .ok (tpI (oneC m.names o)) h := by
  rw [call__law_one]
  have lc : lcLoop (lcBody (C k).cn le__law_one_0 lt__law_one_0 .none [some (moW m), some (opW o), none, none]) [] 0 (m.names.map .str) h = .ok ((oneC m.names o).map .int) h := by
    rw [lc_mapA (g := fun x : Str => W.int (if eqN x o = true then 1 else 0)) (fun x hx => by
      simp -dsimp [lcBody, eq_opN, intI]) (by omega)]
    unfold oneC
    rw [List.map_map]
    rfl
  simp -dsimp [moW] at lc
  simp -dsimp [runF, d__law_one, startL, moW, L2.atI, L2.ixN, wipeL, lc]
theorem plus_ok (k : Nat) (a b : List Int) (h : List O) (hn : a.length ≤ 100) : (C (k + 1)).cn.call "_law_plus" [tpI a, tpI b] h = .ok (tpI ((a.zip b).map fun p => p.1 + p.2)) h := by
  rw [call__law_plus]
  have lc : lcLoop (lcBody (C k).cn le__law_plus_0 lt__law_plus_0 .none [some (tpI a), some (tpI b), none, none, none]) [] 0 (zipW (a.map .int) (b.map .int)) h = .ok (((a.zip b).map fun p => p.1 + p.2).map .int) h := by
    rw [zip_enc, lc_mapA (g := fun q : Int × Int => W.int (q.1 + q.2)) (fun q hq => by
      simp -dsimp [lcBody, seqW]) (by
        have := List.length_zip (l₁ := a) (l₂ := b)
        omega), List.map_map]
    rfl
  simp -dsimp [runF, d__law_plus, startL, wipeL, lc, -List.map_map]
theorem plus_one : ∀ (ns : List Str) (o : Option Str) (cs : List Int), ((cs.zip (oneC ns o)).map fun p => p.1 + p.2) = addC ns o cs
  | [], o, cs => by cases cs <;> rfl
  | n :: ns, o, [] => rfl
  | n :: ns, o, c :: cs => by
    have ih := plus_one ns o cs
    unfold oneC addC at ih ⊢
    rw [List.map_cons, List.zip_cons_cons, List.map_cons, List.zip_cons_cons, List.map_cons, ih]
theorem addC_len (ns : List Str) (o : Option Str) (cs : List Int) (h : cs.length = ns.length) : (addC ns o cs).length = ns.length := by
  unfold addC
  rw [List.length_map, List.length_zip, h]
  omega
theorem addC_none : ∀ (ns : List Str) (cs : List Int), cs.length = ns.length → addC ns none cs = cs
  | [], [], _ => rfl
  | [], _ :: _, h => by simp at h
  | _ :: _, [], h => by simp at h
  | n :: ns, c :: cs, h => by
    have ih := addC_none ns cs (by simpa using h)
    unfold addC at ih ⊢
    rw [List.zip_cons_cons, List.map_cons, ih]
    simp [eqN]
theorem plus1_ok (k : Nat) (m : Mo) (o : Option Str) (cs : List Int) (h : List O) (hn : cs.length ≤ 100) : (C (k + 1)).cn.call "_law_plus" [tpI cs, tpI (oneC m.names o)] h = .ok (tpI (addC m.names o cs)) h := by
  rw [plus_ok k cs _ h hn, plus_one]
theorem lswap_ok (k : Nat) (m : Mo) (a b : Nat) (h : List O) : (C (k + 1)).cn.call "_law_swap_name" [moW m, T [a], T [b]] h = .ok (.str (swapN m a b)) h := by
  rw [call__law_swap_name]
  obtain ⟨o, ef⟩ := for_ret (f := forBody (C k) (.name 3) fb__law_swap_name_0) (a := encG) (p := fun g => decide (a ∈ g.1) && decide (b ∈ g.1)) (r := fun g => .str g.2) (st := fun (o : Option W) => [some (moW m), some (T [a]), some (T [b]), o]) (h := h) (xs := m.groups) (o := none) (fun g _ o => by
    refine ⟨some (encG g), ?_⟩
    have i1 := in_T h a (S g.1)
    have i2 := in_T h b (S g.1)
    have ec : (S g.1).cps.toList = g.1 := by simp
    rw [ec] at i1 i2
    by_cases h1 : a ∈ g.1
    · by_cases h2 : b ∈ g.1
      · simp -dsimp [forBody, i1, i2, h1, h2, L2.atI, L2.ixN, -MP.in_str]
      · simp -dsimp [forBody, i1, i2, h1, h2, L2.atI, L2.ixN, -MP.in_str]
    · simp -dsimp [forBody, i1, i2, h1, L2.atI, L2.ixN, -MP.in_str])
  unfold swapN
  simp -dsimp [moW] at ef
  cases hq : m.groups.find? (fun g => decide (a ∈ g.1) && decide (b ∈ g.1)) with
  | some g =>
    rw [hq] at ef
    simp -dsimp at ef
    simp -dsimp [runF, d__law_swap_name, startL, moW, L2.atI, L2.ixN, ef]
  | none =>
    rw [hq] at ef
    simp -dsimp at ef
    simp -dsimp [runF, d__law_swap_name, startL, moW, L2.atI, L2.ixN, ef]
theorem swapN_sch (m : Mo) (a b : Nat) : swapN (sch m) a b = swapN m a b := by
  unfold swapN sch
  dsimp only
  rw [List.find?_map]
  have e : ((fun g : List Nat × Str => decide (a ∈ g.1) && decide (b ∈ g.1)) ∘ fun g : List Nat × Str => (sl g.1, g.2)) = fun g => decide (a ∈ g.1) && decide (b ∈ g.1) := by
    funext g
    simp [mem_sl]
  rw [e]
  cases m.groups.find? (fun g => decide (a ∈ g.1) && decide (b ∈ g.1)) <;> rfl
theorem costOf_sch (m : Mo) (p : Stp × List Nat) : costOf (sch m) p = costOf m p := by
  obtain ⟨s, ls⟩ := p
  cases s <;> first
    | rfl
    | skip
  unfold costOf
  dsimp only
  rcases ls with _ | ⟨a, _ | ⟨b, r⟩⟩
  · rfl
  · dsimp only
    rw [swapN_sch]
  · rfl
theorem countsR_sch (m : Mo) (ps : List (Stp × List Nat)) : countsR (sch m) ps = countsR m ps := by
  unfold countsR
  congr 1
  funext cs p
  rw [costOf_sch]
  rfl
/-! ### the law's look at steps -/
theorem stepOf_slst (ws : List W) {w : W} (e : its? w = some ws) : stepOf (.slst ws) = stepOf w := by
  unfold stepOf
  rw [e]
  rfl
theorem lstep_ok (k : Nat) (ws : List W) (h : List O) (hw : ws.all okI = true) (hl : ws.length ≤ 900) : (C (k + 1)).cn.call "_law_is_step" [.slst ws] h = .ok (.bl (stepOf (.slst ws)).isSome) h := by
  rw [call__law_is_step]
  rcases ws with _ | ⟨x, r⟩
  · simp -dsimp [runF, d__law_is_step, startL]
    rfl
  · rw [List.all_cons, Bool.and_eq_true] at hw
    have hx := hw.1
    by_cases hs : ∃ s, x = .str s
    · obtain ⟨s, rfl⟩ := hs
      have i3 : inO h (.inr (.str s)) (.inl [.str "keep", .str "drop", .str "turn"]) = some (decide (s ∈ (["keep", "drop", "turn"] : List Str))) := in_strs (ys := ["keep", "drop", "turn"])
      have i2 : inO h (.inr (.str s)) (.inl [.str "add", .str "swap"]) = some (decide (s ∈ (["add", "swap"] : List Str))) := in_strs (ys := ["add", "swap"])
      rcases r with _ | ⟨y, _ | ⟨z, r⟩⟩
      · have e2 : (stepOf (.slst [.str s])).isSome = decide (s ∈ (["keep", "drop", "turn"] : List Str)) := by
          by_cases h1 : s = "keep"
          · subst h1; rfl
          · by_cases h2 : s = "drop"
            · subst h2; rfl
            · by_cases h3 : s = "turn"
              · subst h3; rfl
              · simp [stepOf, its?, h1, h2, h3]
        simp -dsimp [runF, d__law_is_step, startL, L2.atI, L2.ixN, isx_str, i3, e2, sz, -MP.in_str]
      · have hy : okI y = true := by
          have := hw.2
          simp only [List.all_cons, Bool.and_eq_true] at this
          exact this.1
        by_cases h2 : s ∈ (["add", "swap"] : List Str)
        · have e2 : (stepOf (.slst [.str s, y])).isSome = (letOf y).isSome := by
            simp only [List.mem_cons, List.not_mem_nil, or_false] at h2
            unfold stepOf its?
            dsimp only
            cases letOf y with
            | none => rfl
            | some c => rcases h2 with rfl | rfl <;> rfl
          by_cases hys : ∃ z, y = .str z
          · obtain ⟨z, rfl⟩ := hys
            have hz : z.length ≤ 900 := of_decide_eq_true hy
            have ez := len_s h z
            rw [sz (show z.length ≤ 1000 by omega), chk_true] at ez
            by_cases h1 : z.length = 1
            · obtain ⟨c, ec⟩ : ∃ c, z.cps.toList = [c] := by
                have : z.cps.toList.length = 1 := h1
                match hq : z.cps.toList, this with
                | [c], _ => exact ⟨c, rfl⟩
              have ez2 : z = S [c] := by rw [← S_eta z, ec]
              subst ez2
              have ia := in_abc h c
              have el : (letOf (T [c])).isSome = sm c := by
                rw [letOf_T]
                cases hc : sm c <;> simp [hc]
              rw [el] at e2
              have eln := len_T h (a := [c]) (by simp)
              simp -dsimp [runF, d__law_is_step, startL, L2.atI, L2.ixN, isx_str, i2, h2, e2, sz, eln, ia, -MP.in_str]
            · have el : letOf (.str z) = none := by
                unfold letOf
                dsimp only
                have : z.cps.toList.length ≠ 1 := h1
                rcases hq : z.cps.toList with _ | ⟨c, _ | ⟨d, r⟩⟩
                · rfl
                · rw [hq] at this; simp at this
                · rfl
              rw [el] at e2
              have h1b : ((z.length : Int) == 1) = false := by rw [beq_eq_false_iff_ne]; omega
              simp -dsimp [runF, d__law_is_step, startL, L2.atI, L2.ixN, isx_str, i2, h2, e2, sz, ez, h1b, -MP.in_str]
          · have e3 : (["str"].any fun T => isiB (tyN y) T) = false := by
              cases y <;> first | (simp [tyN, isiB]; done) | exact absurd hy Bool.false_ne_true | exact absurd ⟨_, rfl⟩ hys
            have el : letOf y = none := by
              cases y <;> first | rfl | exact absurd ⟨_, rfl⟩ hys
            rw [el] at e2
            simp -dsimp [runF, d__law_is_step, startL, L2.atI, L2.ixN, isx_str, i2, h2, e2, sz, isx_nr h (okI_nr hy), e3, -MP.in_str]
        · have e2 : stepOf (.slst [.str s, y]) = none := by
            simp only [List.mem_cons, List.not_mem_nil, or_false, not_or] at h2
            simp [stepOf, its?, h2]
          simp -dsimp [runF, d__law_is_step, startL, L2.atI, L2.ixN, isx_str, i2, h2, e2, sz, -MP.in_str]
      · have e2 : stepOf (.slst (.str s :: y :: z :: r)) = none := rfl
        have n1 : ((r.length : Int) + 1 + 1 + 1 == 1) = false := by rw [beq_eq_false_iff_ne]; omega
        have n2 : ((r.length : Int) + 1 + 1 + 1 == 2) = false := by rw [beq_eq_false_iff_ne]; omega
        simp -dsimp [runF, d__law_is_step, startL, e2, n1, n2]
    · have e2 : (["str"].any fun T => isiB (tyN x) T) = false := by
        cases x <;> first | (simp [tyN, isiB]; done) | exact absurd hx Bool.false_ne_true | exact absurd ⟨_, rfl⟩ hs
      have e3 : stepOf (.slst (x :: r)) = none := by
        cases x <;> first
          | exact absurd ⟨_, rfl⟩ hs
          | (rcases r with _ | ⟨y, _ | ⟨z, r⟩⟩ <;> rfl)
      rcases r with _ | ⟨y, _ | ⟨z, r⟩⟩
      · simp -dsimp [runF, d__law_is_step, startL, L2.atI, L2.ixN, isx_nr h (okI_nr hx), e2, e3]
      · simp -dsimp [runF, d__law_is_step, startL, L2.atI, L2.ixN, isx_nr h (okI_nr hx), e2, e3]
      · have n1 : ((r.length : Int) + 1 + 1 + 1 == 1) = false := by rw [beq_eq_false_iff_ne]; omega
        have n2 : ((r.length : Int) + 1 + 1 + 1 == 2) = false := by rw [beq_eq_false_iff_ne]; omega
        simp -dsimp [runF, d__law_is_step, startL, e3, n1, n2]
end L08
set_option maxRecDepth 100000
set_option maxHeartbeats 4000000
namespace L08
open PySem PySem.Spec PyProof.Rows MP
theorem sub_neg1 {w : W} {ws : List W} {x : W} (h : List O) (e : its? w = some ws) (ei : ws.getLast? = some x) : subW w (.int (-1)) h = .ok x h := by
  cases w <;> first
    | (cases e; first | rw [sub_tup, atI_neg1 ei]; rfl | rw [sub_slst, atI_neg1 ei]; rfl)
    | cases e
theorem cut_from {α : Type} {l : List α} {i : Nat} (hi : i ≤ l.length) : cutW l (some (i : Int)) none = l.drop i := by
  unfold cutW
  rw [sIx_nat _ hi]
  have : HT.sIx l.length l.length none = l.length := rfl
  rw [this]
  exact List.take_of_length_le (by rw [List.length_drop]; omega)
def cntS (m : Mo) (l : List Nat) (i : Nat) (s : Stp) : Option Str := costOf m (s, (l.drop i).take s.many)
theorem slist_ok {w : W} {ws : List W} (h : List O) (e : its? w = some ws) : seqR h w = .ok ws h := seqR_its h e
section
variable (m : Mo) (h : List O) (l : List Nat)
/-- one step is read -/
theorem lread_no (k : Nat) (hl : l.length ≤ 900) (rw' : W) (w : W) (hw : okW w = true) (t : List Nat) (i : Nat) (cs : List Int) (o : Option W) (hi : i ≤ l.length) (es : stepT m.turn.isSome l i w = none) :
    ∃ ℓ, forBody (C (k + 2)) (.name 6) fb__law_read_0 w [some (moW m), some (T l), some rw', some (T t), some (T (l.drop i)), some (tpI cs), o] h = .ok (.rt .non) ℓ h := by
  refine ⟨[some (moW m), some (T l), some rw', some (T t), some (T (l.drop i)), some (tpI cs), some w], ?_⟩
  have e1 := isx_nr (C := (C (k + 2)).cn) (ts := ["list", "tuple"]) h (okW_nr hw)
  have e2 : (["list", "tuple"].any fun T => isiB (tyN w) T) = (its? w).isSome := by
    have := okW_nr hw
    cases w <;> first | (simp [tyN, its?, isiB]; done) | exact absurd this Bool.false_ne_true
  rw [e2] at e1
  rw [stepT_S] at es
  cases ei : its? w with
  | none =>
    rw [ei] at e1
    simp -dsimp [forBody, e1]
  | some ws =>
    rw [ei] at e1
    have hk : ws.all okI = true ∧ ws.length ≤ 900 := by
      have z := hw
      unfold okW at z
      rw [ei] at z
      simpa using z
    have e3 := lstep_ok (k + 1) ws h hk.1 hk.2
    rw [stepOf_slst ws ei] at e3
    have e4 := slist_ok h ei
    cases eo : stepOf w with
    | none =>
      rw [eo] at e3
      simp -dsimp [forBody, e1, e3, e4]
    | some s =>
      rw [eo] at e3 es
      rw [Option.bind_some] at es
      obtain ⟨ei2, _⟩ := stepOf_its eo
      have hld : (l.drop i).length ≤ 900 := by rw [List.length_drop]; omega
      have eln := len_T h (a := l.drop i) (by omega)
      rw [List.length_drop] at eln
      have em : W.str "" = T [] := rfl
      cases s with
      | add c => cases es
      | turn =>
        have e0 : subW w (.int 0) h = .ok (.str "turn") h := sub_its (i := 0) h ei2 rfl
        cases ht : m.turn with
        | none =>
          have eo : opW m.turn = .non := by rw [ht]; rfl
          simp -dsimp [forBody, e1, e3, e4, e0, moW, L2.atI, L2.ixN, eo]
        | some x =>
          have eo : opW m.turn = .str x := by rw [ht]; rfl
          by_cases h2 : i + 1 < l.length
          · have a0 : (l.drop i)[0]? = some l[i] := by rw [List.getElem?_drop]; exact List.getElem?_eq_getElem (by omega)
            have a1 : (l.drop i)[1]? = some l[i + 1] := by rw [List.getElem?_drop]; exact List.getElem?_eq_getElem (by omega)
            have s0 := sub_T h (i := 0) (by omega) a0
            have s1 := sub_T h (i := 1) (by omega) a1
            have hab : l[i] = l[i + 1] := by
              rw [ht] at es
              simp only [stepS, List.getElem?_eq_getElem (show i < l.length by omega), List.getElem?_eq_getElem h2] at es
              by_cases z : l[i] = l[i + 1]
              · exact z
              · simp [z] at es
            have c2 : ¬ (((l.length - i : Nat) : Int) < 2) := by omega
            simp -dsimp at s0 s1
            simp -dsimp [forBody, e1, e3, e4, e0, moW, L2.atI, L2.ixN, eo, eln, c2, s0, s1, S_beq, hab]
          · have c2 : (((l.length - i : Nat) : Int) < 2) := by omega
            simp -dsimp [forBody, e1, e3, e4, e0, moW, L2.atI, L2.ixN, eo, eln, c2]
      | keep =>
        have e0 : subW w (.int 0) h = .ok (.str "keep") h := sub_its (i := 0) h ei2 rfl
        have hi2 : l.drop i = [] := by
          simp only [stepS, Option.map_eq_none_iff] at es
          exact List.drop_of_length_le (List.getElem?_eq_none_iff.mp es)
        simp -dsimp [forBody, e1, e3, e4, e0, hi2, em, S_beq]
      | drop =>
        have e0 : subW w (.int 0) h = .ok (.str "drop") h := sub_its (i := 0) h ei2 rfl
        have hi2 : l.drop i = [] := by
          simp only [stepS, Option.map_eq_none_iff] at es
          exact List.drop_of_length_le (List.getElem?_eq_none_iff.mp es)
        simp -dsimp [forBody, e1, e3, e4, e0, hi2, em, S_beq]
      | swap c =>
        have e0 : subW w (.int 0) h = .ok (.str "swap") h := sub_its (i := 0) h ei2 rfl
        have e5 : subW w (.int 1) h = .ok (T [c]) h := sub_its (i := 1) h ei2 rfl
        by_cases h2 : i < l.length
        · have a0 : (l.drop i)[0]? = some l[i] := by rw [List.getElem?_drop]; exact List.getElem?_eq_getElem (by omega)
          have s0 := sub_T h (i := 0) (by omega) a0
          have hne : ¬ (l.drop i = []) := by rw [List.drop_eq_nil_iff]; omega
          have hca : c = l[i] := by
            simp only [stepS, List.getElem?_eq_getElem h2, Option.bind_some] at es
            by_cases z : c = l[i]
            · exact z
            · simp [z] at es
          simp -dsimp at s0
          simp -dsimp [forBody, e1, e3, e4, e0, e5, em, S_beq, hne, s0, ← hca]
        · have hi2 : l.drop i = [] := List.drop_of_length_le (by omega)
          simp -dsimp [forBody, e1, e3, e4, e0, hi2, em, S_beq]
end
end L08
set_option maxRecDepth 100000
set_option maxHeartbeats 4000000
namespace L08
open PySem PySem.Spec PyProof.Rows MP
section
variable (m : Mo) (h : List O) (l : List Nat)
theorem lread_yes (k : Nat) (hl : l.length ≤ 900) (hs : l.all sm = true) (hn : m.names.length ≤ 100) (rw' : W) (w : W) (hw : okW w = true) (t : List Nat) (i : Nat) (cs : List Int) (hc : cs.length = m.names.length) (o : Option W) (hi : i ≤ l.length) (ht : t.length ≤ 900) (s : Stp) (r : List Nat × Nat) (eo : stepOf w = some s) (es : stepS m.turn.isSome l i s = some r) :
    forBody (C (k + 2)) (.name 6) fb__law_read_0 w [some (moW m), some (T l), some rw', some (T t), some (T (l.drop i)), some (tpI cs), o] h = .ok .nx [some (moW m), some (T l), some rw', some (T (t ++ r.1)), some (T (l.drop (i + r.2))), some (tpI (addC m.names (cntS m l i s) cs)), some w] h := by
  have e1 := isx_nr (C := (C (k + 2)).cn) (ts := ["list", "tuple"]) h (okW_nr hw)
  obtain ⟨ei, hsm⟩ := stepOf_its eo
  have e2 : (["list", "tuple"].any fun T => isiB (tyN w) T) = (its? w).isSome := by
    have := okW_nr hw
    cases w <;> first | (simp [tyN, its?, isiB]; done) | exact absurd this Bool.false_ne_true
  rw [e2, ei] at e1
  have hk : s.its.all okI = true ∧ s.its.length ≤ 900 := by
    have z := hw
    unfold okW at z
    rw [ei] at z
    simpa using z
  have e3 := lstep_ok (k + 1) s.its h hk.1 hk.2
  rw [stepOf_slst s.its ei, eo] at e3
  have e4 := slist_ok h ei
  have em := stepS_many es
  obtain ⟨le, hr2⟩ := stepS_le es hi
  have hld : (l.drop i).length ≤ 900 := by rw [List.length_drop]; omega
  have eln := len_T h (a := l.drop i) (by omega)
  rw [List.length_drop] at eln
  have es0 : W.str "" = T [] := rfl
  have ed : ∀ j : Nat, i + j ≤ l.length → sliceW (T (l.drop i)) (some (j : Int)) none h = .ok (T (l.drop (i + j))) h := fun j hj => by
    rw [slice_T h (by omega), cut_from (by rw [List.length_drop]; omega), List.drop_drop]
  have on := fun x => one_ok (k + 1) m x h hn
  have pl := fun x => plus1_ok (k + 1) m x cs h (by omega)
  have ecs := addC_none m.names cs hc
  cases s with
  | add c =>
    cases es
    have e0 : subW w (.int 0) h = .ok (.str "add") h := sub_its (i := 0) h ei rfl
    have e5 : subW w (.int 1) h = .ok (T [c]) h := sub_its (i := 1) h ei rfl
    have on1 := on (some m.add)
    have pl1 := pl (some m.add)
    have oo : opW (some m.add) = .str m.add := rfl
    rw [oo] at on1
    have ad := add_T h (a := t) (b := [c]) (by simp; omega)
    have ec : cntS m l i (.add c) = some m.add := rfl
    rw [ec]
    simp -dsimp [moW] at on1
    simp -dsimp [forBody, e1, e3, e4, e0, e5, moW, L2.atI, L2.ixN, on1, pl1, ad, -MP.b_addS]
  | turn =>
    have e0 : subW w (.int 0) h = .ok (.str "turn") h := sub_its (i := 0) h ei rfl
    simp only [stepS] at es
    split at es
    · rename_i htn
      obtain ⟨x, ex⟩ := Option.isSome_iff_exists.mp htn
      have oo : opW m.turn = .str x := by rw [ex]; rfl
      split at es
      · rename_i a b q1 q2
        split at es
        · cases es
        · rename_i hab
          cases es
          have h2 := (List.getElem?_eq_some_iff.mp q2).1
          have a0 : (l.drop i)[0]? = some a := by rw [List.getElem?_drop]; exact q1
          have a1 : (l.drop i)[1]? = some b := by rw [List.getElem?_drop]; exact q2
          have s0 := sub_T h (i := 0) (by omega) a0
          have s1 := sub_T h (i := 1) (by omega) a1
          have c2 : ¬ (((l.length - i : Nat) : Int) < 2) := by omega
          have on1 := on m.turn
          have pl1 := pl m.turn
          have ad1 := add_T h (a := t) (b := [b]) (by simp; omega)
          have ad2 := add_T h (a := t ++ [b]) (b := [a]) (by simp; omega)
          have ed2 : sliceW (T (l.drop i)) (some (2 : Int)) none h = .ok (T (l.drop (i + 2))) h := ed 2 (by simpa using le)
          have ec : cntS m l i .turn = m.turn := rfl
          rw [ec]
          rw [oo] at on1
          simp -dsimp [moW, oo] at on1
          simp -dsimp at s0 s1
          simp -dsimp [forBody, e1, e3, e4, e0, moW, L2.atI, L2.ixN, oo, eln, c2, s0, s1, S_beq, hab, on1, pl1, ad1, ad2, ed2, -MP.b_addS, -MP.sliceW_s]
      · cases es
    · cases es
  | keep =>
    have e0 : subW w (.int 0) h = .ok (.str "keep") h := sub_its (i := 0) h ei rfl
    have e9 := sub_neg1 h ei (x := .str "keep") rfl
    simp only [stepS, Option.map_eq_some_iff] at es
    obtain ⟨a, q1, rfl⟩ := es
    have h2 := (List.getElem?_eq_some_iff.mp q1).1
    have a0 : (l.drop i)[0]? = some a := by rw [List.getElem?_drop]; exact q1
    have s0 := sub_T h (i := 0) (by omega) a0
    have hne : ¬ (l.drop i = []) := by rw [List.drop_eq_nil_iff]; omega
    have dg : dgetW h (.sdct (mergeW [] [(.inr "drop", T []), (.inr "keep", T [a])])) (.str "keep") = some (some (T [a])) := rfl
    have ad := add_T h (a := t) (b := [a]) (by simp; omega)
    have ed2 : sliceW (T (l.drop i)) (some (1 : Int)) none h = .ok (T (l.drop (i + 1))) h := ed 1 (by simpa using le)
    have ec : cntS m l i .keep = none := rfl
    rw [ec, ecs]
    simp -dsimp at s0
    simp -dsimp [forBody, e1, e3, e4, e0, e9, es0, S_beq, hne, s0, dctW, dg, ad, ed2, -MP.b_addS, -MP.sliceW_s]
  | drop =>
    have e0 : subW w (.int 0) h = .ok (.str "drop") h := sub_its (i := 0) h ei rfl
    have e9 := sub_neg1 h ei (x := .str "drop") rfl
    simp only [stepS, Option.map_eq_some_iff] at es
    obtain ⟨a, q1, rfl⟩ := es
    have h2 := (List.getElem?_eq_some_iff.mp q1).1
    have a0 : (l.drop i)[0]? = some a := by rw [List.getElem?_drop]; exact q1
    have s0 := sub_T h (i := 0) (by omega) a0
    have hne : ¬ (l.drop i = []) := by rw [List.drop_eq_nil_iff]; omega
    have dg : dgetW h (.sdct (mergeW [] [(.inr "drop", T []), (.inr "keep", T [a])])) (.str "drop") = some (some (T [])) := rfl
    have ad : binW .Add (T t) (T []) h = .ok (T t) h := by
      have := add_T h (a := t) (b := []) (by simp; omega)
      rwa [List.append_nil] at this
    have ed2 : sliceW (T (l.drop i)) (some (1 : Int)) none h = .ok (T (l.drop (i + 1))) h := ed 1 (by simpa using le)
    have on1 := on (some m.drop)
    have pl1 := pl (some m.drop)
    have oo : opW (some m.drop) = .str m.drop := rfl
    rw [oo] at on1
    have ec : cntS m l i .drop = some m.drop := rfl
    rw [ec]
    simp -dsimp [moW] at on1
    simp -dsimp at s0
    simp -dsimp [forBody, e1, e3, e4, e0, e9, es0, S_beq, hne, s0, dctW, dg, ad, ed2, moW, L2.atI, L2.ixN, on1, pl1, -MP.b_addS, -MP.sliceW_s]
  | swap c =>
    have e0 : subW w (.int 0) h = .ok (.str "swap") h := sub_its (i := 0) h ei rfl
    have e5 : subW w (.int 1) h = .ok (T [c]) h := sub_its (i := 1) h ei rfl
    have e9 := sub_neg1 h ei (x := T [c]) rfl
    simp only [stepS, Option.bind_eq_some_iff] at es
    obtain ⟨a, q1, es⟩ := es
    split at es
    · cases es
    · rename_i hca
      cases es
      have h2 := (List.getElem?_eq_some_iff.mp q1).1
      have a0 : (l.drop i)[0]? = some a := by rw [List.getElem?_drop]; exact q1
      have s0 := sub_T h (i := 0) (by omega) a0
      have hne : ¬ (l.drop i = []) := by rw [List.drop_eq_nil_iff]; omega
      have dg : dgetW h (.sdct (mergeW [] [(.inr "drop", T []), (.inr "keep", T [a])])) (.str "swap") = some none := rfl
      have ad := add_T h (a := t) (b := [c]) (by simp; omega)
      have ed2 : sliceW (T (l.drop i)) (some (1 : Int)) none h = .ok (T (l.drop (i + 1))) h := ed 1 (by simpa using le)
      have sw := lswap_ok (k + 1) m a c h
      have on1 := on (some (swapN m a c))
      have pl1 := pl (some (swapN m a c))
      have oo : opW (some (swapN m a c)) = .str (swapN m a c) := rfl
      rw [oo] at on1
      have e1' : (l.drop i).take 1 = [a] := by
        have e2 := (List.getElem?_eq_some_iff.mp q1).2
        rw [List.drop_eq_getElem_cons h2, e2]
        rfl
      have ec : cntS m l i (.swap c) = some (swapN m a c) := by
        show (match (l.drop i).take 1 with
          | [a] => some (swapN m a c)
          | _ => none) = _
        rw [e1']
      rw [ec]
      simp -dsimp [moW] at on1 sw
      simp -dsimp at s0
      simp -dsimp [forBody, e1, e3, e4, e0, e5, e9, es0, S_beq, hne, hca, s0, dctW, dg, ad, ed2, moW, sw, on1, pl1, -MP.b_addS, -MP.sliceW_s]
end
end L08
set_option maxRecDepth 100000
set_option maxHeartbeats 4000000
namespace L08
open PySem PySem.Spec PyProof.Rows MP
theorem sm_get {l : List Nat} (hs : l.all sm = true) {i a : Nat} (e : l[i]? = some a) : sm a = true := List.all_eq_true.mp hs a (List.mem_of_getElem? e)
theorem stepS_sm {tn : Bool} {l : List Nat} (hs : l.all sm = true) {i : Nat} {w : W} {s : Stp} {r : List Nat × Nat} (eo : stepOf w = some s) (es : stepS tn l i s = some r) : r.1.all sm = true := by
  obtain ⟨_, hc⟩ := stepOf_its eo
  cases s with
  | add c => cases es; simp [hc c (.inl rfl)]
  | turn =>
    simp only [stepS] at es
    split at es
    · split at es
      · rename_i a b q1 q2
        split at es
        · cases es
        · cases es
          simp [sm_get hs q1, sm_get hs q2]
      · cases es
    · cases es
  | keep =>
    simp only [stepS, Option.map_eq_some_iff] at es
    obtain ⟨a, q1, rfl⟩ := es
    simp [sm_get hs q1]
  | drop =>
    simp only [stepS, Option.map_eq_some_iff] at es
    obtain ⟨a, q1, rfl⟩ := es
    rfl
  | swap c =>
    simp only [stepS, Option.bind_eq_some_iff] at es
    obtain ⟨a, q1, es⟩ := es
    split at es
    · cases es
    · cases es
      simp [hc c (.inr rfl)]
abbrev rdL (m : Mo) (l : List Nat) (rw' : W) (t : List Nat) (i : Nat) (cs : List Int) (o : Option W) : Lo := [some (moW m), some (T l), some rw', some (T t), some (T (l.drop i)), some (tpI cs), o]
section
variable (m : Mo) (h : List O) (l : List Nat)
theorem lread_for (k : Nat) (hl : l.length ≤ 900) (hs : l.all sm = true) (hn : m.names.length ≤ 100) (rw' : W) {gs : Gd} (hG : gsOk h gs = true) : ∀ (ws : List W) (t : List Nat) (i : Nat) (cs : List Int) (o : Option W), (∀ w ∈ ws, okW w = true) → t.length + 2 * ws.length ≤ 900 → i ≤ l.length → cs.length = m.names.length → t.all sm = true →
    (readT m.turn.isSome l ws t i = none → ∃ ℓ, forL (forBody (C (k + 2)) (.name 6) fb__law_read_0) gs ws (rdL m l rw' t i cs o) h = .ok (.rt .non) ℓ h) ∧
    (∀ t' i', readT m.turn.isSome l ws t i = some (t', i') → t'.length ≤ t.length + 2 * ws.length ∧ i' ≤ l.length ∧ t'.all sm = true ∧ ∃ sts o', ws.map stepOf = sts.map some ∧ forL (forBody (C (k + 2)) (.name 6) fb__law_read_0) gs ws (rdL m l rw' t i cs o) h = .ok .nx (rdL m l rw' t' i' ((metS l sts i).foldl (fun cs p => addC m.names (costOf m p) cs) cs) o') h)
  | [], t, i, cs, o, _, _, hi, _, ht => ⟨fun e => (by cases e), fun t' i' e => (by cases e; exact ⟨by simp, hi, ht, [], o, rfl, for_nilG hG⟩)⟩
  | w :: ws, t, i, cs, o, hw, hl2, hi, hc, ht => by
    rw [List.length_cons] at hl2
    have hw0 := hw w List.mem_cons_self
    cases es : stepT m.turn.isSome l i w with
    | none =>
      obtain ⟨ℓ, eb⟩ := lread_no m h l k hl rw' w hw0 t i cs o hi es
      refine ⟨fun _ => ⟨ℓ, ?_⟩, fun t' i' e => (by simp [readT, es] at e)⟩
      rw [for_consG hG, eb]
      rfl
    | some r =>
      have es' := es
      rw [stepT_S, Option.bind_eq_some_iff] at es'
      obtain ⟨s, eo, e1⟩ := es'
      have eb := lread_yes m h l k hl hs hn rw' w hw0 t i cs hc o hi (by omega) s r eo e1
      obtain ⟨q1, q2⟩ := stepS_le e1 hi
      have em := stepS_many e1
      obtain ⟨ih1, ih2⟩ := lread_for k hl hs hn rw' hG ws (t ++ r.1) (i + r.2) (addC m.names (cntS m l i s) cs) (some w) (fun w hw' => hw w (List.mem_cons_of_mem _ hw')) (by simp; omega) q1 (addC_len _ _ _ hc) (by rw [List.all_append, ht, stepS_sm hs eo e1]; rfl)
      refine ⟨fun e => ?_, fun t' i' e => ?_⟩
      · obtain ⟨ℓ, e2⟩ := ih1 (by simpa [readT, es] using e)
        exact ⟨ℓ, by rw [for_consG hG, eb, turnS_nx, e2]⟩
      · obtain ⟨q3, q4, q5, sts, o', q6, e2⟩ := ih2 t' i' (by simpa [readT, es] using e)
        refine ⟨by simp at q3 ⊢; omega, q4, q5, s :: sts, o', by rw [List.map_cons, List.map_cons, eo, q6], ?_⟩
        rw [for_consG hG, eb, turnS_nx, e2, metS, List.foldl_cons, em]
        rfl
end
theorem map_some_inj {α : Type} : ∀ {a b : List α}, a.map some = b.map some → a = b
  | [], [], _ => rfl
  | [], _ :: _, h => by cases h
  | _ :: _, [], h => by cases h
  | x :: a, y :: b, h => by
    rw [List.map_cons, List.map_cons] at h
    injection h with h1 h2
    rw [Option.some.inj h1, map_some_inj h2]
theorem oneC_none (ns : List Str) : oneC ns none = ns.map fun _ => 0 := by
  unfold oneC
  simp [eqN]
theorem law_read_no (k : Nat) (m : Mo) (l : List Nat) (w : W) (h : List O) (hl : l.length ≤ 900) (hs : l.all sm = true) (hn : m.names.length ≤ 100) (hw : okR h w = true) (er : readR h m.turn.isSome l w = none) : (C (k + 3)).cn.call "_law_read" [moW m, T l, w] h = .ok .non h := by
  rw [call__law_read]
  have e1 := isxH (C := (C (k + 2)).cn) (okR_nr hw)
  cases e : itsH h w with
  | none =>
    rw [e] at e1
    simp -dsimp [runF, d__law_read, startL, e1]
  | some ws =>
    rw [e] at e1
    have hk : ws.all okW = true ∧ ws.length ≤ 300 := by
      have z := hw
      unfold okR at z
      rw [e] at z
      simpa using z
    have on : (C (k + 2)).cn.call "_law_one" [moW m, .non] h = .ok (tpI (oneC m.names none)) h := one_ok (k + 1) m none h hn
    have es0 : W.str "" = T [] := rfl
    obtain ⟨gs, eso, hG⟩ := soH true e
    obtain ⟨f1, f2⟩ := lread_for m h l k hl hs hn w hG ws [] 0 (oneC m.names none) none (fun x hx => List.all_eq_true.mp hk.1 x hx) (by simp; omega) (Nat.zero_le _) (by unfold oneC; simp) rfl
    simp -dsimp [moW] at on
    cases et : readT m.turn.isSome l ws [] 0 with
    | none =>
      obtain ⟨ℓ, f⟩ := f1 et
      simp -dsimp [rdL, moW] at f
      simp -dsimp [runF, d__law_read, startL, e1, moW, on, es0, eso, f]
    | some r =>
      obtain ⟨t', i'⟩ := r
      obtain ⟨q1, q2, q3, sts, o', q4, f⟩ := f2 t' i' et
      have e3 : ¬ (i' = l.length ∧ t'.length ≤ 6) := by
        unfold readR at er
        rw [e, Option.bind_some, et, Option.bind_some] at er
        dsimp only at er
        rintro ⟨z1, z2⟩
        rw [decide_eq_true z1, decide_eq_true z2, q3] at er
        cases er
      simp -dsimp [rdL, moW] at f
      have eln := len_T h (a := t') (by simp at q1; omega)
      by_cases hi : i' = l.length
      · have h6 : ¬ (t'.length ≤ 6) := fun z => e3 ⟨hi, z⟩
        have h7 : ¬ ((t'.length : Int) < 7) := by omega
        have hd : l.drop i' = [] := by rw [hi]; exact List.drop_length
        simp -dsimp [runF, d__law_read, startL, e1, moW, on, es0, eso, f, S_beq, hd, eln, h7]
      · have hd : ¬ (l.drop i' = []) := by rw [List.drop_eq_nil_iff]; omega
        simp -dsimp [runF, d__law_read, startL, e1, moW, on, es0, eso, f, S_beq, hd]
theorem law_read_yes (k : Nat) (m : Mo) (l : List Nat) (w : W) (h : List O) (hl : l.length ≤ 900) (hs : l.all sm = true) (hn : m.names.length ≤ 100) (hw : okR h w = true) {ws : List W} {sts : List Stp} {t : List Nat} (r : Row h m.turn.isSome l w ws sts t) : (C (k + 3)).cn.call "_law_read" [moW m, T l, w] h = .ok (.tup [T t, tpI (countsR m (metS l sts 0))]) h := by
  rw [call__law_read]
  have e1 := isxH (C := (C (k + 2)).cn) (okR_nr hw)
  have e := r.its
  rw [e] at e1
  have hk : ws.all okW = true ∧ ws.length ≤ 300 := by
    have z := hw
    unfold okR at z
    rw [e] at z
    simpa using z
  have on : (C (k + 2)).cn.call "_law_one" [moW m, .non] h = .ok (tpI (oneC m.names none)) h := one_ok (k + 1) m none h hn
  have es0 : W.str "" = T [] := rfl
  obtain ⟨gs, eso, hG⟩ := soH true e
  obtain ⟨f1, f2⟩ := lread_for m h l k hl hs hn w hG ws [] 0 (oneC m.names none) none (fun x hx => List.all_eq_true.mp hk.1 x hx) (by simp; omega) (Nat.zero_le _) (by unfold oneC; simp) rfl
  simp -dsimp [moW] at on
  have et : readT m.turn.isSome l ws [] 0 = some (t, l.length) := by rw [readT_S r.st, r.rd]
  obtain ⟨q1, q2, q3, sts', o', q4, f⟩ := f2 t l.length et
  have es : sts' = sts := map_some_inj (q4.symm.trans r.st)
  subst es
  have eln := len_T h (a := t) (by have := r.len; omega)
  have h7 : ((t.length : Int) < 7) := by have := r.len; omega
  have hd : l.drop l.length = [] := List.drop_length
  rw [show (oneC m.names none) = m.names.map fun _ => 0 from oneC_none _] at f on
  have ec : (metS l sts' 0).foldl (fun cs p => addC m.names (costOf m p) cs) (m.names.map fun _ => 0) = countsR m (metS l sts' 0) := rfl
  rw [ec] at f
  simp -dsimp [rdL, moW, hd] at f
  simp -dsimp [runF, d__law_read, startL, e1, moW, on, es0, eso, f, S_beq, hd, eln, h7, sz]
/-- whether the law's own reading takes a row -/
theorem law_read_is (k : Nat) (m : Mo) (l : List Nat) (w : W) (h : List O) (hl : l.length ≤ 900) (hs : l.all sm = true) (hn : m.names.length ≤ 100) (hw : okR h w = true) : ∃ v, (C (k + 3)).cn.call "_law_read" [moW m, T l, w] h = .ok v h ∧ (isW v .non).map (!·) = some (readR h m.turn.isSome l w).isSome := by
  cases er : readR h m.turn.isSome l w with
  | none => exact ⟨_, law_read_no k m l w h hl hs hn hw er, rfl⟩
  | some t =>
    obtain ⟨ws, sts, r⟩ := row_of er
    exact ⟨_, law_read_yes k m l w h hl hs hn hw r, rfl⟩
end L08
set_option maxRecDepth 100000
set_option maxHeartbeats 4000000
namespace L08
open PySem PySem.Spec PyProof.Rows MP
/-! ### draws -/
theorem div_small {m : Nat} (h0 : 0 < m) (h : m < 1000000) : divOk (m : Int) = true := by
  unfold divOk
  rw [decide_eq_true (show (m : Int) ≠ 0 ∧ (m : Int).natAbs < 1073741824 by omega)]
  rfl
theorem take_ok (k : Nat) (h : List O) (b n m : Nat) (hb : Bx b n h) (hm0 : 0 < m) (hm : m < 1000000) (hn : n < 10000000) :
    ∃ (r : Nat) (h' : List O), (C (k + 1)).cn.call "_law_take" [.ref b, .int (m : Nat)] h = .ok (.int (r : Nat)) h' ∧ r < m ∧ Bx b (n + 1) h' ∧ Bd b h h' := by
  obtain ⟨r, h', e, r0, r1, b1, b2⟩ := takeG_ok (C k) 160481219 29 103217 16 (by decide) (by decide) (by decide) (by decide) (by decide) h b n m hb (div_small hm0 hm) (by omega) (by omega)
  obtain ⟨q, rfl⟩ := Int.eq_ofNat_of_zero_le r0
  refine ⟨q, h', ?_, by omega, b1, b2⟩
  rw [call__law_take]
  exact e
theorem cell_ok (k : Nat) (h : List O) (ns : List Int) (i : Nat) : ∃ c, (C (k + 1)).cn.call "_law_cell" [.slst (ns.map W.int), .int (i : Nat)] h = .ok (.int c) h := by
  rw [call__law_cell]
  exact cellG_ok (C k) 160481219 29 (by decide) h ns i
theorem bag_ok (k : Nat) (h : List O) (c : Int) : ∃ x y, (C (k + 1)).cn.call "_law_bag" [.int c] h = .ok (.ref h.length) (h ++ [.lst [.int x, .int y, .int 0]]) ∧ Bx h.length 0 (h ++ [.lst [.int x, .int y, .int 0]]) := by
  rw [call__law_bag]
  exact boxT_ok (C k) h c
def letL : List (List Nat) := [[97, 98], [97, 98, 99], [97, 101, 122], [97, 98, 99, 100], [122, 121, 120, 97], [97, 98, 99, 100, 101, 102]]
theorem letters_ok (k : Nat) (h : List O) (b n : Nat) (hb : Bx b n h) (hn : n < 10000000) : ∃ ls h', (C (k + 2)).cn.call "_law_letters" [.ref b] h = .ok (T ls) h' ∧ ls ∈ letL ∧ Bx b (n + 1) h' ∧ Bd b h h' := by
  obtain ⟨r, h1, e1, r1, b1, d1⟩ := take_ok k h b n 6 hb (by omega) (by omega) hn
  have : r = 0 ∨ r = 1 ∨ r = 2 ∨ r = 3 ∨ r = 4 ∨ r = 5 := by omega
  rw [call__law_letters]
  simp -dsimp at e1
  rcases this with rfl | rfl | rfl | rfl | rfl | rfl
  all_goals
    simp -dsimp [runF, d__law_letters, startL, e1, sz, L2.atI, L2.ixN]
  · exact ⟨[97, 98], h1, ⟨rfl, rfl⟩, by decide, b1, d1⟩
  · exact ⟨[97, 98, 99], h1, ⟨rfl, rfl⟩, by decide, b1, d1⟩
  · exact ⟨[97, 101, 122], h1, ⟨rfl, rfl⟩, by decide, b1, d1⟩
  · exact ⟨[97, 98, 99, 100], h1, ⟨rfl, rfl⟩, by decide, b1, d1⟩
  · exact ⟨[122, 121, 120, 97], h1, ⟨rfl, rfl⟩, by decide, b1, d1⟩
  · exact ⟨[97, 98, 99, 100, 101, 102], h1, ⟨rfl, rfl⟩, by decide, b1, d1⟩
end L08
set_option maxRecDepth 100000
set_option maxHeartbeats 4000000
namespace L08
open PySem PySem.Spec PyProof.Rows MP
theorem T_of {Y : Nat → Prop} : ∀ {ys : List W}, (∀ y ∈ ys, ∃ c, y = T [c] ∧ Y c) → ∃ l : List Nat, ys = l.map (fun c => T [c]) ∧ ∀ c ∈ l, Y c
  | [], _ => ⟨[], rfl, fun _ h => nomatch h⟩
  | y :: ys, h => by
    obtain ⟨c, e, hc⟩ := h y List.mem_cons_self
    obtain ⟨l, e2, hl⟩ := T_of (ys := ys) fun z hz => h z (List.mem_cons_of_mem _ hz)
    exact ⟨c :: l, by rw [e, e2]; rfl, fun d hd => by
      rcases List.mem_cons.mp hd with rfl | hd
      · exact hc
      · exact hl d hd⟩
theorem join_chs (l : List Nat) : Txt.join (Str.ofString "") (l.map fun c => S [c]) = S l := by
  have e := TL.tl_join (Str.ofString "") (l.map fun c => (⟨#[c]⟩ : Str))
  have j1 : ∀ cs : List Nat, TL.joinL [] (cs.map fun c => [c]) = cs := by
    intro cs
    induction cs with
    | nil => rfl
    | cons c cs ih =>
      cases cs with
      | nil => rfl
      | cons d ds =>
        show [c] ++ ([] ++ TL.joinL [] ((d :: ds).map fun c => [c])) = _
        rw [ih]; rfl
  have e2 : (Txt.join (Str.ofString "") (l.map fun c => S [c])).cps.toList = l := by
    rw [TL.join_eq]
    refine Eq.trans e ?_
    rw [List.map_map]
    exact j1 l
  rw [← S_eta (Txt.join (Str.ofString "") (l.map fun c => S [c])), e2]
theorem joinR_chs (h : List O) {l : List Nat} (hl : l.length ≤ 1000) : joinR (Str.ofString "") (l.map fun c => T [c]) h = .ok (T l) h := by
  unfold joinR
  have : (l.map fun c => T [c]) = (l.map fun c => S [c]).map .str := by rw [List.map_map]; rfl
  rw [this, unStrs_str]
  have h1 : ((l.map fun c => S [c]).map (·.length)).sum = l.length := by
    rw [List.map_map]
    clear this hl
    induction l with
    | nil => rfl
    | cons c cs ih =>
      rw [List.map_cons, List.sum_cons, ih, List.length_cons]
      show 1 + _ = _
      omega
  have h2 : (Str.ofString "").length = 0 := rfl
  show chk (decide (_ ≤ 16777216)) _ = _
  rw [h1, h2, decide_eq_true (by omega), chk_true, join_chs]
/-- some letters: not none, not many, all small -/
def okL (ls : List Nat) : Prop := 0 < ls.length ∧ ls.length ≤ 100 ∧ ls.all sm = true
theorem pick_ok (k : Nat) (h : List O) (b n : Nat) (ls : List Nat) (hl : okL ls) (hb : Bx b n h) (hn : n < 10000000) : ∃ (r : Nat) (c : Nat) (h' : List O), (C (k + 1)).cn.call "_law_take" [.ref b, .int (ls.length : Nat)] h = .ok (.int (r : Nat)) h' ∧ subW (T ls) (.int (r : Nat)) h' = .ok (T [c]) h' ∧ sm c = true ∧ c ∈ ls ∧ Bx b (n + 1) h' ∧ Bd b h h' := by
  obtain ⟨l1, l2, l3⟩ := hl
  obtain ⟨r, h1, e1, r1, b1, d1⟩ := take_ok k h b n ls.length hb l1 (by omega) hn
  have ei : ls[r]? = some ls[r] := List.getElem?_eq_getElem r1
  exact ⟨r, ls[r], h1, e1, sub_T h1 (by omega) ei, sm_get l3 ei, List.getElem_mem r1, b1, d1⟩
theorem word_fin (k : Nat) (h h1 h2 : List O) (b m r : Nat) (ls l : List Nat) (e1 : (C (k + 1)).cn.call "_law_take" [.ref b, .int ((m + 1 : Nat) : Int)] h = .ok (.int (r : Nat)) h1)
    (e2 : lcLoop (lcBody (C (k + 1)).cn le__law_word_0 lt__law_word_0 .none [some (.ref b), some (T ls), some (.int (m : Nat)), none, none]) [] 0 (rngL 0 r) h1 = .ok (l.map fun c => T [c]) h2) (hl : l.length ≤ 1000) (hr : r < 1000000) : (C (k + 2)).cn.call "_law_word" [.ref b, T ls, .int (m : Nat)] h = .ok (T l) h2 := by
  rw [call__law_word, runF_of rfl]
  have e : (ev (C (k + 1)).cn (.call "_law_take" (.cons (.var 0) (.cons (.bin .Add (.var 2) (.int 1)) .nil)))).v [some (.ref b), some (T ls), some (.int (m : Nat)), none, none] h = .ok (.int (r : Nat)) h1 := by
    simp -dsimp at e1
    simp -dsimp [e1]
  have v : (ev (C (k + 1)).cn (.bm "join" (.str "") (.cons (.lcomp le__law_word_0 lt__law_word_0 (.range (.cons (.call "_law_take" (.cons (.var 0) (.cons (.bin .Add (.var 2) (.int 1)) .nil))) .nil)) .none [3, 4]) .nil))).v [some (.ref b), some (T ls), some (.int (m : Nat)), none, none] h = .ok (T l) h2 := by
    rw [v_m_join]
    show R.bind ((ev (C (k + 1)).cn (.lcomp le__law_word_0 lt__law_word_0 (.range (.cons (.call "_law_take" (.cons (.var 0) (.cons (.bin .Add (.var 2) (.int 1)) .nil))) .nil)) .none [3, 4])).l [some (.ref b), some (T ls), some (.int (m : Nat)), none, none] h) (fun ws h => joinR (Str.ofString "") ws h) = _
    rw [l_lcomp, rng1_of e hr, R.bind_ok]
    show R.bind (lcLoop (lcBody (C (k + 1)).cn le__law_word_0 lt__law_word_0 .none [some (.ref b), some (T ls), some (.int (m : Nat)), none, none]) [] 0 (rngL 0 r) h1) _ = _
    rw [e2, R.bind_ok, joinR_chs h2 hl]
  show gcF false h (endF (evSs (C (k + 1)) (.cons (.ret _) .nil) [some (.ref b), some (T ls), some (.int (m : Nat)), none, none] h)) = _
  rw [ss_one, s_ret_, v, liftE_ok]
  rfl
theorem word_ok (k : Nat) (h : List O) (b n : Nat) (ls : List Nat) (m : Nat) (hm : m < 100) (hl : okL ls) (hb : Bx b n h) (hn : n + m < 10000000) : ∃ l h', (C (k + 2)).cn.call "_law_word" [.ref b, T ls, .int (m : Nat)] h = .ok (T l) h' ∧ l.length ≤ m ∧ (∀ c ∈ l, c ∈ ls) ∧ l.all sm = true ∧ Bx b (n + 1 + m) h' ∧ Bd b h h' := by
  obtain ⟨r, h1, e1, r1, b1, d1⟩ := take_ok k h b n (m + 1) hb (by omega) (by omega) (by omega)
  have hl2 := hl.2.1
  obtain ⟨ys, h2, e2, ⟨i1, i2⟩, l2, y2⟩ := lc_draw (f := lcBody (C (k + 1)).cn le__law_word_0 lt__law_word_0 .none [some (.ref b), some (T ls), some (.int (m : Nat)), none, none]) (I := fun j h' => Bx b (n + 1 + j) h' ∧ Bd b h h') (Y := fun y => ∃ c, y = T [c] ∧ (sm c = true ∧ c ∈ ls)) (ws := rngL 0 r) (n := 0) (k := 0) (h := h1)
    (fun w hw j h' _ hj hi => by
      obtain ⟨q, c, h2, e1, e2, s1, s2, b2, d2⟩ := pick_ok k h' b (n + 1 + j) ls hl hi.1 (by simp [rngL] at hj; omega)
      refine ⟨T [c], h2, ?_, ⟨b2, hi.2.trans d2⟩, c, rfl, s1, s2⟩
      have e3 := len_T h' (a := ls) (by omega)
      simp -dsimp [lcBody, e1, e2, e3]) (by simp [rngL]; omega) ⟨b1, d1⟩
  have lr : (rngL 0 r).length = r := by simp [rngL]
  rw [lr] at l2 i1
  obtain ⟨l, rfl, hl3⟩ := T_of y2
  rw [List.length_map] at l2
  refine ⟨l, h2, word_fin k h h1 h2 b m r ls l e1 e2 (by omega) (by omega), by omega, fun c hc => (hl3 c hc).2, List.all_eq_true.mpr fun c hc => (hl3 c hc).1, i1.le (by omega), i2⟩
end L08
set_option maxRecDepth 100000
set_option maxHeartbeats 4000000
namespace L08
open PySem PySem.Spec PyProof.Rows MP
abbrev mB1 : Ms := (.asg (.name 2) (.frz (.lst (.cons (.frz (.lst (.cons (.str "edit") (.cons (.str "near") (.cons (.str "turn") (.cons (.str "x") .nil)))))) (.cons (.frz (.lst (.cons (.str "a") (.cons (.str "ab") (.cons (.str "abc") (.cons (.str "swap") .nil)))))) (.cons (.frz (.lst (.cons (.str "z") (.cons (.str "keep") (.cons (.str "zzzzzzzz") (.cons (.str "drop") .nil)))))) .nil))))))
abbrev mB2 : Ms := (.asg (.name 3) (.slice (.sub (.var 2) (.call "_law_take" (.cons (.var 0) (.cons (.int 3) .nil)))) .none (.some (.bin .Add (.int 1) (.call "_law_take" (.cons (.var 0) (.cons (.int 4) .nil)))))))
abbrev mB3 : Ms := (.asg (.name 4) (.frz (.lcomp (.sub (.var 3) (.call "_law_take" (.cons (.var 0) (.cons (.blt "len" (.cons (.var 3) .nil)) .nil)))) (.name 8) (.range (.cons (.int 5) .nil)) .none [7, 8])))
abbrev mB4 : Ms := (.asg (.name 5) (.lst (.cons (.frz (.lst .nil)) (.cons (.frz (.lst (.cons (.tup (.cons (.slice (.var 1) .none (.some (.int 2))) (.cons (.sub (.var 4) (.int 3)) .nil))) .nil))) (.cons (.frz (.lst (.cons (.tup (.cons (.var 1) (.cons (.sub (.var 4) (.int 4)) .nil))) .nil))) .nil)))))
abbrev mB5 : Ms := (.expr (.bm "append" (.var 5) (.cons (.frz (.lst (.cons (.tup (.cons (.str "qr") (.cons (.sub (.var 4) (.int 4)) .nil))) (.cons (.tup (.cons (.str "st") (.cons (.sub (.var 4) (.int 3)) .nil))) (.cons (.tup (.cons (.slice (.var 1) .none (.some (.int 2))) (.cons (.sub (.var 4) (.int 4)) .nil))) (.cons (.tup (.cons (.bin .Add (.slice (.var 1) (.some (.int 2)) .none) (.str "pk")) (.cons (.sub (.var 4) (.int 3)) .nil))) .nil)))))) .nil)))
abbrev mB6 : Ms := (.expr (.bm "append" (.var 5) (.cons (.frz (.lst (.cons (.tup (.cons (.p1 (.sst (some (1)) none (-1)) (.var 1)) (.cons (.sub (.var 4) (.int 3)) .nil))) (.cons (.tup (.cons (.bin .Add (.slice (.var 1) (.some (.int 2)) .none) (.str "qr")) (.cons (.sub (.var 4) (.int 4)) .nil))) .nil)))) .nil)))
abbrev mB7 : Ms := (.asg (.name 6) (.sub (.lst (.cons .non (.cons (.sub (.var 3) (.call "_law_take" (.cons (.var 0) (.cons (.blt "len" (.cons (.var 3) .nil)) .nil)))) .nil))) (.bin .Mod (.call "_law_take" (.cons (.var 0) (.cons (.int 3) .nil))) (.int 2))))
abbrev mB8 : Ms := (.ret (.tup (.cons (.var 3) (.cons (.sub (.var 4) (.int 0)) (.cons (.sub (.var 4) (.int 1)) (.cons (.sub (.var 4) (.int 2)) (.cons (.sub (.var 5) (.call "_law_take" (.cons (.var 0) (.cons (.int 5) .nil)))) (.cons (.var 6) .nil))))))))
theorem mB_body : d__law_model.body = (.cons mB1 (.cons mB2 (.cons mB3 (.cons mB4 (.cons mB5 (.cons mB6 (.cons mB7 (.cons mB8 .nil)))))))) := rfl
theorem sIx_min {n i : Nat} (d : Nat) : HT.sIx n d (some (i : Int)) = min i n := by
  unfold HT.sIx
  have h0 : ¬ ((i : Int) < 0) := by omega
  simp [h0]
theorem cut_to {α : Type} {l : List α} {i : Nat} : cutW l none (some (i : Int)) = l.take i := by
  unfold cutW
  rw [sIx_min]
  have : HT.sIx l.length 0 none = 0 := rfl
  rw [this, List.drop_zero, Nat.sub_zero, List.take_eq_take_iff]
  omega
theorem cut_of {α : Type} {l : List α} {i : Nat} : cutW l (some (i : Int)) none = l.drop i := by
  unfold cutW
  rw [sIx_min]
  have : HT.sIx l.length l.length none = l.length := rfl
  rw [this]
  by_cases h : i ≤ l.length
  · rw [Nat.min_eq_left h]
    exact List.take_of_length_le (by rw [List.length_drop]; omega)
  · rw [Nat.min_eq_right (by omega), List.drop_length, List.drop_of_length_le (by omega)]
    simp
def stkL : List (List Str) := [["edit", "near", "turn", "x"], ["a", "ab", "abc", "swap"], ["z", "keep", "zzzzzzzz", "drop"]]
abbrev stkW : W := .slst (stkL.map fun s => W.slst (s.map W.str))
theorem stk_ok : (stkL.all fun s => (List.range 4).all fun q => (s.take (q + 1)).all okN && (decide (s.take (q + 1)).Nodup && decide (1 ≤ (s.take (q + 1)).length ∧ (s.take (q + 1)).length ≤ 4))) = true := by decide +kernel
theorem rv2_ok (h : List O) {ls : List Nat} (hl : ls ∈ letL) : p1R (.sst (some 1) none (-1)) (.inr (T ls)) h = .ok (T (ls.take 2).reverse) h := by
  have h6 : ls.length ≤ 6 := by
    have : letL.all (fun l => decide (l.length ≤ 6)) = true := by decide
    exact of_decide_eq_true (List.all_eq_true.mp this ls hl)
  show chk (decide ((S ls).length ≤ sizeLine ∧ (-1 : Int) ≠ 0 ∧ (-1 : Int) ≠ 1)) (R.ok (W.str (stpS (S ls) (some 1) none (-1))) h) = _
  rw [decide_eq_true ⟨of_decide_eq_true (sz (by rw [S_len]; omega)), by decide, by decide⟩, chk_true]
  have e : stpS (S ls) (some 1) none (-1) = S (ls.take 2).reverse := by
    simp only [letL, List.mem_cons, List.not_mem_nil, or_false] at hl
    rcases hl with rfl | rfl | rfl | rfl | rfl | rfl <;> decide +kernel
  rw [e]
theorem mB1_ok (k : Nat) (b ls : Option W) (h : List O) (o2 o3 o4 o5 o6 o7 o8 : Option W) : evS (C k) mB1 [b, ls, o2, o3, o4, o5, o6, o7, o8] h = .ok .nx [b, ls, some stkW, o3, o4, o5, o6, o7, o8] h := by
  simp -dsimp [sz, stkL, stkW]
theorem mB2_ok (k : Nat) (b n : Nat) (ls : Option W) (h : List O) (hb : Bx b n h) (hn : n < 1000000) (o3 o4 o5 o6 o7 o8 : Option W) : ∃ (ns : List Str) (h' : List O), evS (C (k + 1)) mB2 [some (.ref b), ls, some stkW, o3, o4, o5, o6, o7, o8] h = .ok .nx [some (.ref b), ls, some stkW, some (.slst (ns.map .str)), o4, o5, o6, o7, o8] h' ∧ (ns.all okN = true ∧ ns.Nodup ∧ 1 ≤ ns.length ∧ ns.length ≤ 4) ∧ Bx b (n + 2) h' ∧ Bd b h h' := by
  obtain ⟨r, h1, e1, r1, b1, d1⟩ := take_ok k h b n 3 hb (by omega) (by omega) (by omega)
  obtain ⟨q, h2, e2, r2, b2, d2⟩ := take_ok k h1 b (n + 1) 4 b1 (by omega) (by omega) (by omega)
  have hr : stkL[r]? = some stkL[r] := List.getElem?_eq_getElem (show r < 3 from r1)
  have hs := List.all_eq_true.mp (List.all_eq_true.mp stk_ok _ (List.getElem_mem (show r < stkL.length from r1))) q (List.mem_range.mpr r2)
  simp only [Bool.and_eq_true, decide_eq_true_eq] at hs
  have ea : L2.atI (stkL.map fun s => W.slst (s.map W.str)) (r : Int) = some (W.slst (stkL[r].map W.str)) := atI_nat (by rw [List.getElem?_map, hr]; rfl)
  have ec : cutW (stkL[r].map W.str) none (some (1 + (q : Int))) = (stkL[r].take (q + 1)).map W.str := by
    rw [show (1 + (q : Int)) = ((q + 1 : Nat) : Int) by omega, cut_to, List.map_take]
  refine ⟨stkL[r].take (q + 1), h2, ?_, ⟨hs.1, hs.2.1, hs.2.2⟩, b2, d1.trans d2⟩
  simp -dsimp at e1 e2
  have e0 : subW stkW (.int (r : Nat)) h1 = .ok (.slst (stkL[r].map W.str)) h1 := by
    rw [sub_slst, ea]; rfl
  simp -dsimp [e1, e2, e0, ec, -MP.sub_slst]
theorem strs_of {Y : Str → Prop} : ∀ {ys : List W}, (∀ y ∈ ys, ∃ c, y = .str c ∧ Y c) → ∃ l : List Str, ys = l.map .str ∧ ∀ c ∈ l, Y c
  | [], _ => ⟨[], rfl, fun _ h => nomatch h⟩
  | y :: ys, h => by
    obtain ⟨c, e, hc⟩ := h y List.mem_cons_self
    obtain ⟨l, e2, hl⟩ := strs_of (ys := ys) fun z hz => h z (List.mem_cons_of_mem _ hz)
    exact ⟨c :: l, by rw [e, e2]; rfl, fun d hd => by
      rcases List.mem_cons.mp hd with rfl | hd
      · exact hc
      · exact hl d hd⟩
theorem pickN_ok (k : Nat) (h : List O) (b n : Nat) (ns : List Str) (h1 : 1 ≤ ns.length) (h4 : ns.length ≤ 4) (hb : Bx b n h) (hn : n < 10000000) : ∃ (r : Nat) (x : Str) (h' : List O), (C (k + 1)).cn.call "_law_take" [.ref b, .int (ns.length : Nat)] h = .ok (.int (r : Nat)) h' ∧ L2.atI (ns.map W.str) (r : Int) = some (.str x) ∧ x ∈ ns ∧ Bx b (n + 1) h' ∧ Bd b h h' := by
  obtain ⟨r, h1, e1, r1, b1, d1⟩ := take_ok k h b n ns.length hb (by omega) (by omega) hn
  refine ⟨r, ns[r], h1, e1, ?_, List.getElem_mem r1, b1, d1⟩
  exact atI_nat (by rw [List.getElem?_map, List.getElem?_eq_getElem r1]; rfl)
theorem mB3_ok (k : Nat) (b n : Nat) (ls o2 : Option W) (ns : List Str) (h1 : 1 ≤ ns.length) (h4 : ns.length ≤ 4) (h : List O) (hb : Bx b n h) (hn : n < 1000000) (o4 o5 o6 : Option W) : ∃ (s0 s1 s2 s3 s4 : Str) (h' : List O), evS (C (k + 1)) mB3 [some (.ref b), ls, o2, some (.slst (ns.map .str)), o4, o5, o6, none, none] h = .ok .nx [some (.ref b), ls, o2, some (.slst (ns.map .str)), some (.slst [.str s0, .str s1, .str s2, .str s3, .str s4]), o5, o6, none, none] h' ∧ (s0 ∈ ns ∧ s1 ∈ ns ∧ s2 ∈ ns ∧ s3 ∈ ns ∧ s4 ∈ ns) ∧ Bx b (n + 5) h' ∧ Bd b h h' := by
  obtain ⟨ys, h2, e2, ⟨i1, i2⟩, l2, y2⟩ := lc_draw (f := lcBody (C (k + 1)).cn le__law_model_0 lt__law_model_0 .none [some (.ref b), ls, o2, some (.slst (ns.map .str)), o4, o5, o6, none, none]) (I := fun j h' => Bx b (n + j) h' ∧ Bd b h h') (Y := fun y => ∃ c, y = .str c ∧ c ∈ ns) (ws := rngL 0 5) (n := 0) (k := 0) (h := h)
    (fun w hw j h' _ hj hi => by
      obtain ⟨q, c, h2, e1, e2, s1, b2, d2⟩ := pickN_ok k h' b (n + j) ns h1 h4 hi.1 (by simp [rngL] at hj; omega)
      refine ⟨.str c, h2, ?_, ⟨b2, hi.2.trans d2⟩, c, rfl, s1⟩
      simp -dsimp [lcBody, e1, e2]) (by decide) ⟨hb, .refl⟩
  obtain ⟨l, rfl, hl3⟩ := strs_of y2
  rw [List.length_map] at l2
  have l5 : l.length = 5 := l2
  obtain ⟨s0, s1, s2, s3, s4, rfl⟩ : ∃ s0 s1 s2 s3 s4, l = [s0, s1, s2, s3, s4] := by
    match l, l5 with
    | [s0, s1, s2, s3, s4], _ => exact ⟨_, _, _, _, _, rfl⟩
  refine ⟨s0, s1, s2, s3, s4, h2, ?_, ⟨hl3 _ (by simp), hl3 _ (by simp), hl3 _ (by simp), hl3 _ (by simp), hl3 _ (by simp)⟩, i1, i2⟩
  have e : (ev (C (k + 1)).cn (.int 5)).v [some (.ref b), ls, o2, some (.slst (ns.map .str)), o4, o5, o6, none, none] h = .ok (.int ((5 : Nat) : Int)) h := rfl
  have v : (ev (C (k + 1)).cn (.frz (.lcomp le__law_model_0 lt__law_model_0 (.range (.cons (.int 5) .nil)) .none [7, 8]))).v [some (.ref b), ls, o2, some (.slst (ns.map .str)), o4, o5, o6, none, none] h = .ok (.slst [.str s0, .str s1, .str s2, .str s3, .str s4]) h2 := by
    rw [v_frz, l_lcomp, rng1_of e (by omega), R.bind_ok]
    show R.bind (lcLoop (lcBody (C (k + 1)).cn le__law_model_0 lt__law_model_0 .none [some (.ref b), ls, o2, some (.slst (ns.map .str)), o4, o5, o6, none, none]) [] 0 (rngL 0 5) h) _ = _
    rw [e2]
    rfl
  rw [s_asg_, v, liftE_ok]
  rfl
end L08
set_option maxRecDepth 100000
set_option maxHeartbeats 4000000
namespace L08
open PySem PySem.Spec PyProof.Rows MP
def parts (ls : List Nat) (s3 s4 : Str) : List (List (List Nat × Str)) := [[], [(ls.take 2, s3)], [(ls, s4)], [([113, 114], s4), ([115, 116], s3), (ls.take 2, s4), (ls.drop 2 ++ [112, 107], s3)], [((ls.take 2).reverse, s3), (ls.drop 2 ++ [113, 114], s4)]]
abbrev gsW (gs : List (List Nat × Str)) : W := .slst (gs.map encG)
def okG2 : List (List Nat × Str) → List Nat → Bool
  | [], _ => true
  | g :: gs, tk => decide (2 ≤ g.1.length ∧ g.1.length ≤ 26) && (g.1.all sm && (decide g.1.Nodup && (g.1.all (fun c => decide (c ∉ tk)) && okG2 gs (tk ++ g.1))))
theorem okGs_of {ns : List Str} : ∀ {gs : List (List Nat × Str)} {tk tk' : List Nat}, (∀ c, c ∈ tk ↔ c ∈ tk') → okG2 gs tk' = true → (∀ g ∈ gs, g.2 ∈ ns) → okGs ns gs tk = true
  | [], _, _, _, _, _ => rfl
  | g :: gs, tk, tk', ht, h, hg => by
    unfold okG2 at h
    simp only [Bool.and_eq_true, decide_eq_true_eq] at h
    obtain ⟨a1, a2, a3, a4, a5⟩ := h
    unfold okGs
    have ih := okGs_of (ns := ns) (gs := gs) (tk := tk ++ sl g.1) (tk' := tk' ++ g.1) (fun c => by rw [List.mem_append, List.mem_append, ht c, mem_sl]) a5 (fun x hx => hg x (List.mem_cons_of_mem _ hx))
    have a4' : g.1.all (fun c => decide (c ∉ tk)) = true := by
      refine List.all_eq_true.mpr fun c hc => decide_eq_true fun z => ?_
      exact of_decide_eq_true (List.all_eq_true.mp a4 c hc) ((ht c).mp z)
    rw [ih, a2, a4', decide_eq_true a1, decide_eq_true a3, decide_eq_true (hg g List.mem_cons_self)]
    rfl
def part0 (ls : List Nat) : List (List (List Nat)) := [[], [ls.take 2], [ls], [[113, 114], [115, 116], ls.take 2, ls.drop 2 ++ [112, 107]], [(ls.take 2).reverse, ls.drop 2 ++ [113, 114]]]
theorem okG2_str : ∀ {gs gs' : List (List Nat × Str)} {tk : List Nat}, gs.map (·.1) = gs'.map (·.1) → okG2 gs tk = okG2 gs' tk
  | [], [], _, _ => rfl
  | [], _ :: _, _, h => by cases h
  | _ :: _, [], _, h => by cases h
  | g :: gs, g' :: gs', tk, h => by
    rw [List.map_cons, List.map_cons] at h
    injection h with h1 h2
    unfold okG2
    rw [h1, okG2_str h2]
theorem parts_dec : (letL.all fun ls => (parts ls "" "").all fun gs => okG2 gs [] && decide (gs.length ≤ 20)) = true := by decide +kernel
theorem parts_ok {ns : List Str} {ls : List Nat} {s3 s4 : Str} (hl : ls ∈ letL) (h3 : s3 ∈ ns) (h4 : s4 ∈ ns) {r : Nat} {gs : List (List Nat × Str)} (e : (parts ls s3 s4)[r]? = some gs) : okGs ns gs [] = true ∧ gs.length ≤ 20 := by
  have hd := List.all_eq_true.mp parts_dec ls hl
  have hr : r < 5 := (List.getElem?_eq_some_iff.mp e).1
  have : r = 0 ∨ r = 1 ∨ r = 2 ∨ r = 3 ∨ r = 4 := by omega
  have key : ∀ gs', (parts ls "" "")[r]? = some gs' → gs.map (·.1) = gs'.map (·.1) → (∀ g ∈ gs, g.2 ∈ ns) → okGs ns gs [] = true ∧ gs.length ≤ 20 := by
    intro gs' e' em hg
    have h1 := List.all_eq_true.mp hd gs' (List.mem_of_getElem? e')
    simp only [Bool.and_eq_true, decide_eq_true_eq] at h1
    refine ⟨okGs_of (fun _ => Iff.rfl) (by rw [okG2_str em]; exact h1.1) hg, ?_⟩
    have := congrArg List.length em
    rw [List.length_map, List.length_map] at this
    omega
  rcases this with rfl | rfl | rfl | rfl | rfl <;> cases e
  · exact key _ rfl rfl (by simp)
  · exact key _ rfl rfl (by simp [h3])
  · exact key _ rfl rfl (by simp [h4])
  · exact key _ rfl rfl (by simp [h3, h4])
  · exact key _ rfl rfl (by simp [h3, h4])
theorem take2_ok (h : List O) {ls : List Nat} (hl : ls.length ≤ 1000) : sliceW (T ls) none (some (2 : Int)) h = .ok (T (ls.take 2)) h := by
  rw [slice_T h hl]
  congr 3
  exact cut_to (i := 2)
theorem drop2_ok (h : List O) {ls : List Nat} (hl : ls.length ≤ 1000) : sliceW (T ls) (some (2 : Int)) none h = .ok (T (ls.drop 2)) h := by
  rw [slice_T h hl]
  congr 3
  exact cut_of (i := 2)
abbrev s5W (s0 s1 s2 s3 s4 : Str) : W := .slst [.str s0, .str s1, .str s2, .str s3, .str s4]
section
variable (k : Nat) {ls : List Nat} (s0 s1 s2 s3 s4 : Str) (b o2 o3 : Option W) (o6 : Option W) (h : List O)
theorem let6 (hl : ls ∈ letL) : ls.length ≤ 6 := by
  have : letL.all (fun l => decide (l.length ≤ 6)) = true := by decide
  exact of_decide_eq_true (List.all_eq_true.mp this ls hl)
theorem mB4_ok (hl : ls ∈ letL) (o5 : Option W) : evS (C k) mB4 [b, some (T ls), o2, o3, some (s5W s0 s1 s2 s3 s4), o5, o6, none, none] h = .ok .nx [b, some (T ls), o2, o3, some (s5W s0 s1 s2 s3 s4), some (.ref h.length), o6, none, none] (h ++ [.lst (((parts ls s3 s4).take 3).map gsW)]) := by
  have e1 := take2_ok h (ls := ls) (by have := let6 hl; omega)
  simp -dsimp [sz, e1, L2.atI, L2.ixN, parts, -MP.sliceW_s]
theorem mB5_ok (hl : ls ∈ letL) : evS (C k) mB5 [b, some (T ls), o2, o3, some (s5W s0 s1 s2 s3 s4), some (.ref h.length), o6, none, none] (h ++ [.lst (((parts ls s3 s4).take 3).map gsW)]) = .ok .nx [b, some (T ls), o2, o3, some (s5W s0 s1 s2 s3 s4), some (.ref h.length), o6, none, none] (h ++ [.lst (((parts ls s3 s4).take 4).map gsW)]) := by
  have hl6 := let6 hl
  have e1 := take2_ok (h ++ [.lst (((parts ls s3 s4).take 3).map gsW)]) (ls := ls) (by omega)
  have e2 := drop2_ok (h ++ [.lst (((parts ls s3 s4).take 3).map gsW)]) (ls := ls) (by omega)
  have ad := add_T (h ++ [.lst (((parts ls s3 s4).take 3).map gsW)]) (a := ls.drop 2) (b := [112, 107]) (by simp; omega)
  have es : W.str "pk" = T [112, 107] := rfl
  have hh := get_last h (.lst (((parts ls s3 s4).take 3).map gsW))
  have ap := fun y => app_ref (y := y) hh (by simp [parts])
  have il := isLst_ref hh
  simp -dsimp [sz, e1, e2, ad, es, ap, il, L2.atI, L2.ixN, -MP.sliceW_s, -MP.b_addS, -List.map_take, -List.take_succ_cons]
  rfl
theorem mB6_ok (hl : ls ∈ letL) : evS (C k) mB6 [b, some (T ls), o2, o3, some (s5W s0 s1 s2 s3 s4), some (.ref h.length), o6, none, none] (h ++ [.lst (((parts ls s3 s4).take 4).map gsW)]) = .ok .nx [b, some (T ls), o2, o3, some (s5W s0 s1 s2 s3 s4), some (.ref h.length), o6, none, none] (h ++ [.lst ((parts ls s3 s4).map gsW)]) := by
  have hl6 := let6 hl
  have e1 := rv2_ok (h ++ [.lst (((parts ls s3 s4).take 4).map gsW)]) hl
  have e2 := drop2_ok (h ++ [.lst (((parts ls s3 s4).take 4).map gsW)]) (ls := ls) (by omega)
  have ad := add_T (h ++ [.lst (((parts ls s3 s4).take 4).map gsW)]) (a := ls.drop 2) (b := [113, 114]) (by simp; omega)
  have es : W.str "qr" = T [113, 114] := rfl
  have hh := get_last h (.lst (((parts ls s3 s4).take 4).map gsW))
  have ap := fun y => app_ref (y := y) hh (by simp [parts])
  have il := isLst_ref hh
  simp -dsimp [sz, e1, e2, ad, es, ap, il, L2.atI, L2.ixN, -MP.sliceW_s, -MP.b_addS, -List.map_take, -List.take_succ_cons]
  rfl
end
end L08
set_option maxRecDepth 100000
set_option maxHeartbeats 4000000
namespace L08
open PySem PySem.Spec PyProof.Rows MP
theorem mB7_ok (k : Nat) (b n : Nat) (ls o2 : Option W) (ns : List Str) (h1 : 1 ≤ ns.length) (h4 : ns.length ≤ 4) (h : List O) (hb : Bx b n h) (hn : n < 1000000) (o4 o5 o6 : Option W) : ∃ (t : Option Str) (h' : List O), evS (C (k + 1)) mB7 [some (.ref b), ls, o2, some (.slst (ns.map .str)), o4, o5, o6, none, none] h = .ok .nx [some (.ref b), ls, o2, some (.slst (ns.map .str)), o4, o5, some (opW t), none, none] h' ∧ (∀ x, t = some x → x ∈ ns) ∧ Bx b (n + 2) h' ∧ Bd b h h' := by
  obtain ⟨q, x, h2, e1, e2, s1, b2, d2⟩ := pickN_ok k h b n ns h1 h4 hb (by omega)
  obtain ⟨r, h3, e3, r3, b3, d3⟩ := take_ok k h2 b (n + 1) 3 b2 (by omega) (by omega) (by omega)
  have : r = 0 ∨ r = 1 ∨ r = 2 := by omega
  have f0 : L2.atI [W.non, .str x] 0 = some .non := rfl
  have f1 : L2.atI [W.non, .str x] 1 = some (.str x) := rfl
  rcases this with rfl | rfl | rfl <;> simp -dsimp at e3
  · refine ⟨none, h3, ?_, fun x z => (by cases z), b3, d2.trans d3⟩
    simp -dsimp [e1, e2, e3, sz, f0, f1, opW]
  · refine ⟨some x, h3, ?_, fun y z => (by cases z; exact s1), b3, d2.trans d3⟩
    simp -dsimp [e1, e2, e3, sz, f0, f1, opW]
  · refine ⟨none, h3, ?_, fun x z => (by cases z), b3, d2.trans d3⟩
    simp -dsimp [e1, e2, e3, sz, f0, f1, opW]
theorem mB8_ok (k : Nat) (b n p : Nat) {ls : List Nat} (ol o2 : Option W) (ns : List Str) (s0 s1 s2 s3 s4 : Str) (t : Option Str) (h : List O) (hb : Bx b n h) (hn : n < 1000000) (hp : p ≠ b) (e : h[p]? = some (.lst ((parts ls s3 s4).map gsW))) (o7 o8 : Option W) : ∃ (r : Nat) (gs : List (List Nat × Str)) (h' : List O), evS (C (k + 1)) mB8 [some (.ref b), ol, o2, some (.slst (ns.map .str)), some (s5W s0 s1 s2 s3 s4), some (.ref p), some (opW t), o7, o8] h = .ok (.rt (moW ⟨ns, s0, s1, s2, gs, t⟩)) [some (.ref b), ol, o2, some (.slst (ns.map .str)), some (s5W s0 s1 s2 s3 s4), some (.ref p), some (opW t), o7, o8] h' ∧ (parts ls s3 s4)[r]? = some gs ∧ Bx b (n + 1) h' ∧ Bd b h h' := by
  obtain ⟨r, h3, e3, r3, b3, d3⟩ := take_ok k h b n 5 hb (by omega) (by omega) (by omega)
  have hr : (parts ls s3 s4)[r]? = some (parts ls s3 s4)[r] := List.getElem?_eq_getElem (show r < 5 from r3)
  refine ⟨r, _, h3, ?_, hr, b3, d3⟩
  have e2 : h3[p]? = some (.lst ((parts ls s3 s4).map gsW)) := by rw [d3.2 p hp]; exact e
  have e4 := sub_ref h3 e2 r
  have e5 : L2.atI ((parts ls s3 s4).map gsW) (r : Int) = some (gsW (parts ls s3 s4)[r]) := atI_nat (by rw [List.getElem?_map, hr]; rfl)
  rw [e5] at e4
  simp -dsimp at e3
  simp -dsimp [e3, e4, sz, L2.atI, L2.ixN, moW]
theorem okMo_of {ns : List Str} {s0 s1 s2 : Str} {gs : List (List Nat × Str)} {t : Option Str} (hn : ns.all okN = true ∧ ns.Nodup ∧ 1 ≤ ns.length ∧ ns.length ≤ 4) (h0 : s0 ∈ ns) (h1 : s1 ∈ ns) (h2 : s2 ∈ ns) (hg : okGs ns gs [] = true ∧ gs.length ≤ 20) (ht : ∀ x, t = some x → x ∈ ns) : okMo ⟨ns, s0, s1, s2, gs, t⟩ = true := by
  unfold okMo
  dsimp only
  rw [hn.1, decide_eq_true hn.2.1, decide_eq_true hn.2.2, decide_eq_true h0, decide_eq_true h1, decide_eq_true h2, hg.1, decide_eq_true hg.2]
  cases t with
  | none => rfl
  | some x => exact decide_eq_true (ht x rfl)
theorem cl_moW (m : Mo) : cl (moW m) = true := by
  unfold moW
  have h1 : MP.cls (m.names.map W.str) = true := by rw [MP.cls_all, List.all_map]; exact List.all_eq_true.mpr fun _ _ => rfl
  have h2 : MP.cls (m.groups.map encG) = true := by rw [MP.cls_all, List.all_map]; exact List.all_eq_true.mpr fun _ _ => rfl
  have h3 : cl (opW m.turn) = true := by cases m.turn <;> rfl
  simp [cl, MP.cls, h1, h2, h3]
theorem model_ok (k : Nat) (b n : Nat) {ls : List Nat} (hl : ls ∈ letL) (h : List O) (hb : Bx b n h) (hn : n < 100000) : ∃ (m : Mo) (h' : List O), (C (k + 2)).cn.call "_law_model" [.ref b, T ls] h = .ok (moW m) h' ∧ okMo m = true ∧ Bx b (n + 10) h' ∧ Bd b h h' := by
  have hlt : b < h.length := hb.lt
  obtain ⟨ns, h2, a2, q2, b2, d2⟩ := mB2_ok k b n (some (T ls)) h hb (by omega) none none none none none none
  obtain ⟨s0, s1, s2, s3, s4, h3, a3, q3, b3, d3⟩ := mB3_ok k b (n + 2) (some (T ls)) (some stkW) ns q2.2.2.1 q2.2.2.2 h2 b2 (by omega) none none none
  have a4 := mB4_ok (k + 1) s0 s1 s2 s3 s4 (some (.ref b)) (some stkW) (some (.slst (ns.map .str))) none h3 hl none
  have a5 := mB5_ok (k + 1) s0 s1 s2 s3 s4 (some (.ref b)) (some stkW) (some (.slst (ns.map .str))) none h3 hl
  have a6 := mB6_ok (k + 1) s0 s1 s2 s3 s4 (some (.ref b)) (some stkW) (some (.slst (ns.map .str))) none h3 hl
  obtain ⟨t, h7, a7, q7, b7, d7⟩ := mB7_ok k b (n + 2 + 5) (some (T ls)) (some stkW) ns q2.2.2.1 q2.2.2.2 (h3 ++ [.lst ((parts ls s3 s4).map gsW)]) b3.app (by omega) (some (s5W s0 s1 s2 s3 s4)) (some (.ref h3.length)) none
  have hlen : h3.length = h.length := d3.1.trans d2.1
  have hp : h3.length ≠ b := by omega
  have e7 : h7[h3.length]? = some (.lst ((parts ls s3 s4).map gsW)) := by rw [d7.2 _ hp]; exact get_last _ _
  obtain ⟨r, gs, h8, a8, q8, b8, d8⟩ := mB8_ok k b (n + 2 + 5 + 2) h3.length (ls := ls) (some (T ls)) (some stkW) ns s0 s1 s2 s3 s4 t h7 b7 (by omega) hp e7 none none
  have gr : Gr b h h8 := (((Gr.of d2).trans (Gr.of d3)).trans (Gr.app _)).trans ((Gr.of d7).trans (Gr.of d8))
  refine ⟨⟨ns, s0, s1, s2, gs, t⟩, h8.take h.length, ?_, okMo_of q2 q3.1 q3.2.1 q3.2.2.1 (parts_ok hl q3.2.2.2.1 q3.2.2.2.2 q8) q7, b8.take hlt, gr.take⟩
  rw [call__law_model, runF_of rfl, mB_body]
  show gcF true h (endF (evSs (C (k + 1)) _ [some (.ref b), some (T ls), none, none, none, none, none, none, none] h)) = _
  rw [ss_cons, mB1_ok, seqS_nx, ss_cons, a2, seqS_nx, ss_cons, a3, seqS_nx, ss_cons, a4, seqS_nx, ss_cons, a5, seqS_nx, ss_cons, a6, seqS_nx, ss_cons, a7, seqS_nx, ss_one, a8]
  show gcF true h (.ok (moW _) h8) = _
  rw [gcF_t, gcR_gr gr b8 (dz_cl _ (cl_moW _))]
end L08
set_option maxRecDepth 100000
set_option maxHeartbeats 4000000
namespace L08
open PySem PySem.Spec PyProof.Rows MP
/-! ### a drawn row -/
abbrev rB1 : Ms := (.par3 4 5 6 (.lst .nil) (.int 0) (.int 0))
abbrev rB2 : Ms := (.while (.boolop .Or (.cons (.cmp .Lt (.var 5) (.blt "len" (.cons (.var 2) .nil))) (.cons (.boolop .And (.cons (.cmp .Lt (.var 6) (.int 6)) (.cons (.cmp .Eq (.call "_law_take" (.cons (.var 0) (.cons (.int 3) .nil))) (.int 0)) .nil))) .nil))) (.cons (.par 7 8 (.call "_law_take" (.cons (.var 0) (.cons (.int 6) .nil))) (.sub (.var 3) (.call "_law_take" (.cons (.var 0) (.cons (.blt "len" (.cons (.var 3) .nil)) .nil))))) (.cons (.ife (.boolop .And (.cons (.cmp .Lt (.var 6) (.int 6)) (.cons (.boolop .Or (.cons (.cmp .Eq (.var 7) (.int 0)) (.cons (.cmp .Eq (.var 5) (.blt "len" (.cons (.var 2) .nil))) .nil))) (.cons (.cmp .Lt (.bin .Sub (.bin .Add (.var 6) (.blt "len" (.cons (.var 2) .nil))) (.var 5)) (.int 6)) .nil)))) (.cons (.expr (.bm "append" (.var 4) (.cons (.tup (.cons (.str "add") (.cons (.var 8) .nil))) .nil))) (.cons (.asg (.name 6) (.bin .Add (.var 6) (.int 1))) (.cons .cont .nil))) .nil) (.cons (.ife (.cmp .Eq (.var 5) (.blt "len" (.cons (.var 2) .nil))) (.cons .brk .nil) .nil) (.cons (.ife (.boolop .And (.cons (.cmp .Eq (.var 7) (.int 1)) (.cons (.cmp .IsNot (.sub (.var 1) (.int 5)) .non) (.cons (.cmp .Lt (.bin .Add (.var 5) (.int 1)) (.blt "len" (.cons (.var 2) .nil))) (.cons (.cmp .NotEq (.sub (.var 2) (.var 5)) (.sub (.var 2) (.bin .Add (.var 5) (.int 1)))) .nil))))) (.cons (.expr (.bm "append" (.var 4) (.cons (.tup (.cons (.str "turn") .nil)) .nil))) (.cons (.par 5 6 (.bin .Add (.var 5) (.int 2)) (.bin .Add (.var 6) (.int 2))) .nil)) (.cons (.ife (.cmp .Eq (.var 7) (.int 2)) (.cons (.expr (.bm "append" (.var 4) (.cons (.tup (.cons (.str "drop") .nil)) .nil))) (.cons (.asg (.name 5) (.bin .Add (.var 5) (.int 1))) .nil)) (.cons (.expr (.bm "append" (.var 4) (.cons (.ife (.boolop .And (.cons (.cmp .Eq (.var 7) (.int 3)) (.cons (.cmp .NotEq (.var 8) (.sub (.var 2) (.var 5))) .nil))) (.tup (.cons (.str "swap") (.cons (.var 8) .nil))) (.tup (.cons (.str "keep") .nil))) .nil))) (.cons (.par 5 6 (.bin .Add (.var 5) (.int 1)) (.bin .Add (.var 6) (.int 1))) .nil))) .nil)) .nil)))))
abbrev rB3 : Ms := (.ret (.var 4))
theorem rB_body : d__law_row.body = (.cons rB1 (.cons rB2 (.cons rB3 .nil))) := rfl
abbrev rW1 : Ms := (.par 7 8 (.call "_law_take" (.cons (.var 0) (.cons (.int 6) .nil))) (.sub (.var 3) (.call "_law_take" (.cons (.var 0) (.cons (.blt "len" (.cons (.var 3) .nil)) .nil)))))
abbrev rW2 : Ms := (.ife (.boolop .And (.cons (.cmp .Lt (.var 6) (.int 6)) (.cons (.boolop .Or (.cons (.cmp .Eq (.var 7) (.int 0)) (.cons (.cmp .Eq (.var 5) (.blt "len" (.cons (.var 2) .nil))) .nil))) (.cons (.cmp .Lt (.bin .Sub (.bin .Add (.var 6) (.blt "len" (.cons (.var 2) .nil))) (.var 5)) (.int 6)) .nil)))) (.cons (.expr (.bm "append" (.var 4) (.cons (.tup (.cons (.str "add") (.cons (.var 8) .nil))) .nil))) (.cons (.asg (.name 6) (.bin .Add (.var 6) (.int 1))) (.cons .cont .nil))) .nil)
abbrev rW3 : Ms := (.ife (.cmp .Eq (.var 5) (.blt "len" (.cons (.var 2) .nil))) (.cons .brk .nil) .nil)
abbrev rW4 : Ms := (.ife (.boolop .And (.cons (.cmp .Eq (.var 7) (.int 1)) (.cons (.cmp .IsNot (.sub (.var 1) (.int 5)) .non) (.cons (.cmp .Lt (.bin .Add (.var 5) (.int 1)) (.blt "len" (.cons (.var 2) .nil))) (.cons (.cmp .NotEq (.sub (.var 2) (.var 5)) (.sub (.var 2) (.bin .Add (.var 5) (.int 1)))) .nil))))) (.cons (.expr (.bm "append" (.var 4) (.cons (.tup (.cons (.str "turn") .nil)) .nil))) (.cons (.par 5 6 (.bin .Add (.var 5) (.int 2)) (.bin .Add (.var 6) (.int 2))) .nil)) (.cons (.ife (.cmp .Eq (.var 7) (.int 2)) (.cons (.expr (.bm "append" (.var 4) (.cons (.tup (.cons (.str "drop") .nil)) .nil))) (.cons (.asg (.name 5) (.bin .Add (.var 5) (.int 1))) .nil)) (.cons (.expr (.bm "append" (.var 4) (.cons (.ife (.boolop .And (.cons (.cmp .Eq (.var 7) (.int 3)) (.cons (.cmp .NotEq (.var 8) (.sub (.var 2) (.var 5))) .nil))) (.tup (.cons (.str "swap") (.cons (.var 8) .nil))) (.tup (.cons (.str "keep") .nil))) .nil))) (.cons (.par 5 6 (.bin .Add (.var 5) (.int 1)) (.bin .Add (.var 6) (.int 1))) .nil))) .nil))
theorem rW_body : wb__law_row_0 = (.cons rW1 (.cons rW2 (.cons rW3 (.cons rW4 .nil)))) := rfl
abbrev rC2 : Me := (.boolop .And (.cons (.cmp .Lt (.var 6) (.int 6)) (.cons (.boolop .Or (.cons (.cmp .Eq (.var 7) (.int 0)) (.cons (.cmp .Eq (.var 5) (.blt "len" (.cons (.var 2) .nil))) .nil))) (.cons (.cmp .Lt (.bin .Sub (.bin .Add (.var 6) (.blt "len" (.cons (.var 2) .nil))) (.var 5)) (.int 6)) .nil))))
abbrev rT2 : Mss := (.cons (.expr (.bm "append" (.var 4) (.cons (.tup (.cons (.str "add") (.cons (.var 8) .nil))) .nil))) (.cons (.asg (.name 6) (.bin .Add (.var 6) (.int 1))) (.cons .cont .nil)))
abbrev rE2 : Mss := .nil
theorem rW2_eq : rW2 = .ife rC2 rT2 rE2 := rfl
abbrev rC4 : Me := (.boolop .And (.cons (.cmp .Eq (.var 7) (.int 1)) (.cons (.cmp .IsNot (.sub (.var 1) (.int 5)) .non) (.cons (.cmp .Lt (.bin .Add (.var 5) (.int 1)) (.blt "len" (.cons (.var 2) .nil))) (.cons (.cmp .NotEq (.sub (.var 2) (.var 5)) (.sub (.var 2) (.bin .Add (.var 5) (.int 1)))) .nil)))))
abbrev rT4 : Mss := (.cons (.expr (.bm "append" (.var 4) (.cons (.tup (.cons (.str "turn") .nil)) .nil))) (.cons (.par 5 6 (.bin .Add (.var 5) (.int 2)) (.bin .Add (.var 6) (.int 2))) .nil))
abbrev rE4 : Mss := (.cons (.ife (.cmp .Eq (.var 7) (.int 2)) (.cons (.expr (.bm "append" (.var 4) (.cons (.tup (.cons (.str "drop") .nil)) .nil))) (.cons (.asg (.name 5) (.bin .Add (.var 5) (.int 1))) .nil)) (.cons (.expr (.bm "append" (.var 4) (.cons (.ife (.boolop .And (.cons (.cmp .Eq (.var 7) (.int 3)) (.cons (.cmp .NotEq (.var 8) (.sub (.var 2) (.var 5))) .nil))) (.tup (.cons (.str "swap") (.cons (.var 8) .nil))) (.tup (.cons (.str "keep") .nil))) .nil))) (.cons (.par 5 6 (.bin .Add (.var 5) (.int 1)) (.bin .Add (.var 6) (.int 1))) .nil))) .nil)
theorem rW4_eq : rW4 = .ife rC4 rT4 rE4 := rfl
abbrev rSt (b : Nat) (m : Mo) (l ls : List Nat) (p at_ sz_ : Nat) (o7 o8 : Option W) : Lo := [some (.ref b), some (moW m), some (T l), some (T ls), some (.ref p), some (.int (at_ : Nat)), some (.int (sz_ : Nat)), o7, o8]
section
variable (k b : Nat) (m : Mo) (l ls : List Nat) (p at_ sz_ : Nat) (h : List O)
theorem rC2_ok (w : Nat) (hl : l.length ≤ 900) (ha : at_ ≤ l.length) (o8 : Option W) : (ev (C k).cn rC2).t (rSt b m l ls p at_ sz_ (some (.int (w : Nat))) o8) h = .ok (decide (sz_ < 6 ∧ (w = 0 ∨ at_ = l.length) ∧ sz_ + (l.length - at_) < 6)) h := by
  have en := len_T h (a := l) (by omega)
  by_cases a1 : sz_ < 6
  · have b1 : (sz_ : Int) < 6 := by omega
    by_cases a4 : sz_ + (l.length - at_) < 6
    · have b4 : (sz_ : Int) + l.length - at_ < 6 := by omega
      by_cases a2 : w = 0
      · subst a2
        simp -dsimp [rC2, en, a1, a4, b1, b4]
      · have b2 : ((w : Int) == 0) = false := by rw [beq_eq_false_iff_ne]; omega
        by_cases a3 : at_ = l.length
        · subst a3
          simp -dsimp [rC2, en, a1, b1, b2]
        · have b3 : ((at_ : Int) == (l.length : Int)) = false := by rw [beq_eq_false_iff_ne]; omega
          simp -dsimp [rC2, en, a1, a2, a3, b1, b2, b3]
    · have b4 : ¬ ((sz_ : Int) + l.length - at_ < 6) := by omega
      by_cases a2 : w = 0
      · subst a2
        simp -dsimp [rC2, en, a1, a4, b1, b4]
      · have b2 : ((w : Int) == 0) = false := by rw [beq_eq_false_iff_ne]; omega
        by_cases a3 : at_ = l.length
        · omega
        · have b3 : ((at_ : Int) == (l.length : Int)) = false := by rw [beq_eq_false_iff_ne]; omega
          simp -dsimp [rC2, en, a1, a2, a3, b1, b2, b3]
  · have b1 : ¬ ((sz_ : Int) < 6) := by omega
    simp -dsimp [rC2, a1, b1]
theorem rC4_ok (w : Nat) (hl : l.length ≤ 900) (ha : at_ < l.length) (o8 : Option W) : (ev (C k).cn rC4).t (rSt b m l ls p at_ sz_ (some (.int (w : Nat))) o8) h = .ok (decide (w = 1 ∧ m.turn.isSome = true ∧ at_ + 1 < l.length ∧ l[at_]? ≠ l[at_ + 1]?)) h := by
  have en := len_T h (a := l) (by omega)
  by_cases a1 : w = 1
  · subst a1
    cases ht : m.turn with
    | none =>
      have eo : opW none = .non := rfl
      simp -dsimp [rC4, moW, L2.atI, L2.ixN, ht, eo]
    | some x =>
      have eo : opW (some x) = .str x := rfl
      by_cases a2 : at_ + 1 < l.length
      · have b2 : (at_ : Int) + 1 < l.length := by omega
        have q1 : l[at_]? = some l[at_] := List.getElem?_eq_getElem ha
        have q2 : l[at_ + 1]? = some l[at_ + 1] := List.getElem?_eq_getElem a2
        have s1 := sub_T h (by omega) q1
        have s2 := sub_T h (by omega) q2
        rw [show ((at_ + 1 : Nat) : Int) = (at_ : Int) + 1 by omega] at s2
        by_cases a3 : l[at_] = l[at_ + 1]
        · have q3 : l[at_]? = l[at_ + 1]? := by rw [q1, q2, a3]
          simp -dsimp [rC4, moW, L2.atI, L2.ixN, ht, eo, en, b2, s1, s2, S_beq, a3, q3]
        · simp -dsimp [rC4, moW, L2.atI, L2.ixN, ht, eo, en, b2, s1, s2, S_beq, a2, a3, q1, q2]
      · have b2 : ¬ ((at_ : Int) + 1 < l.length) := by omega
        simp -dsimp [rC4, moW, L2.atI, L2.ixN, ht, eo, en, a2, b2]
  · have b1 : ((w : Int) == 1) = false := by rw [beq_eq_false_iff_ne]; omega
    simp -dsimp [rC4, a1, b1]
end
end L08
set_option maxRecDepth 100000
set_option maxHeartbeats 4000000
namespace L08
open PySem PySem.Spec PyProof.Rows MP
def smS : Stp → Bool
  | .add c => sm c
  | .swap c => sm c
  | _ => true
abbrev stW1 (s : Stp) : W := .tup s.its
theorem stepOf_stW {s : Stp} (h : smS s = true) : stepOf (stW1 s) = some s := by
  cases s with
  | add c =>
    have : letOf (T [c]) = some c := by rw [letOf_T]; exact if_pos h
    show ((letOf (T [c])).bind fun c => _) = _
    rw [this]; rfl
  | swap c =>
    have : letOf (T [c]) = some c := by rw [letOf_T]; exact if_pos h
    show ((letOf (T [c])).bind fun c => _) = _
    rw [this]; rfl
  | keep => rfl
  | drop => rfl
  | turn => rfl
theorem readS_snoc {tn : Bool} {l : List Nat} {s : Stp} : ∀ {ss : List Stp} {t : List Nat} {i : Nat} {t' : List Nat} {i' : Nat} {r : List Nat × Nat}, readS tn l ss t i = some (t', i') → stepS tn l i' s = some r → readS tn l (ss ++ [s]) t i = some (t' ++ r.1, i' + r.2)
  | [], t, i, t', i', r, h, h2 => by
    cases h
    rw [List.nil_append, readS, h2]
    rfl
  | a :: ss, t, i, t', i', r, h, h2 => by
    rw [readS, Option.bind_eq_some_iff] at h
    obtain ⟨q, e, h⟩ := h
    rw [List.cons_append, readS, e, Option.bind_some]
    exact readS_snoc h h2
/-- what holds after some turns of the loop -/
structure RI (tn : Bool) (l : List Nat) (b p : Nat) (h0 : List O) (n : Nat) (h : List O) (ss : List Stp) (a z : Nat) : Prop where
  rd : ∃ t, readS tn l ss [] 0 = some (t, a) ∧ t.length = z ∧ t.all sm = true
  le : a ≤ l.length
  six : z + (l.length - a) ≤ 6
  sms : ss.all smS = true
  at' : h[p]? = some (.lst (ss.map stW1))
  bx : Bx b n h
  gr : Gr b h0 h
theorem bx_set {b n p : Nat} {h : List O} {o : O} (q : Bx b n h) (hp : p ≠ b) : Bx b n (h.set p o) := by
  obtain ⟨x, y, z', e, r⟩ := q
  exact ⟨x, y, z', by rw [List.getElem?_set_ne hp]; exact e, r⟩
theorem RI.draw {tn : Bool} {l : List Nat} {b p : Nat} {h0 : List O} {n n' : Nat} {h h' : List O} {ss : List Stp} {a z : Nat} (i : RI tn l b p h0 n h ss a z) (hp : p ≠ b) (q : Bx b n' h') (d : Bd b h h') : RI tn l b p h0 n' h' ss a z := ⟨i.rd, i.le, i.six, i.sms, by rw [d.2 p hp]; exact i.at', q, i.gr.trans (.of d)⟩
theorem RI.step {tn : Bool} {l : List Nat} (hs : l.all sm = true) {b p : Nat} {h0 : List O} {n : Nat} {h : List O} {ss : List Stp} {a z : Nat} (i : RI tn l b p h0 n h ss a z) (hp : p ≠ b) (hp0 : h0.length ≤ p) {s : Stp} {r : List Nat × Nat} (e : stepS tn l a s = some r) (hm : smS s = true) (h6 : z + r.1.length + (l.length - (a + r.2)) ≤ 6) : RI tn l b p h0 n (h.set p (.lst ((ss ++ [s]).map stW1))) (ss ++ [s]) (a + r.2) (z + r.1.length) := by
  obtain ⟨t, e1, e2, e3⟩ := i.rd
  have hlt : p < h.length := (List.getElem?_eq_some_iff.mp i.at').1
  refine ⟨⟨t ++ r.1, readS_snoc e1 e, by rw [List.length_append, e2], ?_⟩, (stepS_le e i.le).1, h6, ?_, List.getElem?_set_self hlt, bx_set i.bx hp, i.gr.set hp0⟩
  · rw [List.all_append, e3, stepS_sm hs (stepOf_stW hm) e]; rfl
  · rw [List.all_append, i.sms, List.all_cons, hm]; rfl
/-- one turn -/
theorem row_turn (k b : Nat) (m : Mo) (l ls : List Nat) (p : Nat) (h0 : List O) (hl : l.length ≤ 6) (hs : l.all sm = true) (hL : okL ls) (hp : p ≠ b) (hp0 : h0.length ≤ p) (n : Nat) (hn : n < 1000000) (h : List O) (ss : List Stp) (hss : ss.length ≤ 100) (a z : Nat) (i : RI m.turn.isSome l b p h0 n h ss a z) (o7 o8 : Option W) :
    ∃ h' o7' o8', (∃ (s : Stp) (a' z' : Nat) (f : Fl), (f = .nx ∨ f = .ct) ∧ evSs (C (k + 1)) wb__law_row_0 (rSt b m l ls p a z o7 o8) h = .ok f (rSt b m l ls p a' z' o7' o8') h' ∧ RI m.turn.isSome l b p h0 (n + 2) h' (ss ++ [s]) a' z' ∧ (l.length - a') + (6 - z') < (l.length - a) + (6 - z)) ∨
      (evSs (C (k + 1)) wb__law_row_0 (rSt b m l ls p a z o7 o8) h = .ok .bk (rSt b m l ls p a z o7' o8') h' ∧ RI m.turn.isSome l b p h0 (n + 2) h' ss a z ∧ a = l.length) := by
  obtain ⟨w, h1, e1, r1, b1, d1⟩ := take_ok k h b n 6 i.bx (by omega) (by omega) (by omega)
  obtain ⟨q, c, h2, e2, e3, c1, c2, b2, d2⟩ := pick_ok k h1 b (n + 1) ls hL b1 (by omega)
  have i2 := i.draw hp b2 (d1.trans d2)
  have en := len_T h1 (a := ls) (by have := hL.2.1; omega)
  have ap := fun y => app_ref (y := y) i2.at' (by rw [List.length_map]; omega)
  have il := isLst_ref i2.at'
  have a1 : evS (C (k + 1)) rW1 (rSt b m l ls p a z o7 o8) h = .ok .nx (rSt b m l ls p a z (some (.int (w : Nat))) (some (T [c]))) h2 := by
    simp -dsimp at e1 e2
    simp -dsimp [e1, e2, e3, en]
  have q2 := rC2_ok (k + 1) b m l ls p a z h2 w (by omega) i.le (some (T [c]))
  have q4 := fun ha => rC4_ok (k + 1) b m l ls p a z h2 w (by omega) ha (some (T [c]))
  have ln := len_T h2 (a := l) (by omega)
  have six := i.six
  have le := i.le
  rw [rW_body]
  by_cases g2 : z < 6 ∧ (w = 0 ∨ a = l.length) ∧ z + (l.length - a) < 6
  · refine ⟨h2.set p (.lst ((ss ++ [Stp.add c]).map stW1)), some (.int (w : Nat)), some (T [c]), .inl ⟨.add c, a, z + 1, .ct, .inr rfl, ?_, i2.step hs hp hp0 (s := .add c) (r := ([c], 0)) rfl c1 (by simp; omega), by omega⟩⟩
    rw [decide_eq_true g2] at q2
    have a2 : evS (C (k + 1)) rW2 (rSt b m l ls p a z (some (.int (w : Nat))) (some (T [c]))) h2 = .ok .ct (rSt b m l ls p a (z + 1) (some (.int (w : Nat))) (some (T [c]))) (h2.set p (.lst ((ss ++ [Stp.add c]).map stW1))) := by
      rw [rW2_eq, s_ife_, q2, liftE_ok, ifS_t]
      have em : (ss ++ [Stp.add c]).map stW1 = ss.map stW1 ++ [.tup [.str "add", T [c]]] := by rw [List.map_append]; rfl
      rw [em]
      simp -dsimp [ap, il, sz]
    rw [ss_cons, a1, seqS_nx, ss_cons, a2]
    rfl
  · rw [decide_eq_false g2] at q2
    have a2 : evS (C (k + 1)) rW2 (rSt b m l ls p a z (some (.int (w : Nat))) (some (T [c]))) h2 = .ok .nx (rSt b m l ls p a z (some (.int (w : Nat))) (some (T [c]))) h2 := by
      rw [rW2_eq, s_ife_, q2, liftE_ok, ifS_f]
      rfl
    by_cases g3 : a = l.length
    · refine ⟨h2, some (.int (w : Nat)), some (T [c]), .inr ⟨?_, i2, g3⟩⟩
      have a3 : evS (C (k + 1)) rW3 (rSt b m l ls p a z (some (.int (w : Nat))) (some (T [c]))) h2 = .ok .bk (rSt b m l ls p a z (some (.int (w : Nat))) (some (T [c]))) h2 := by
        simp -dsimp [ln, g3]
      rw [ss_cons, a1, seqS_nx, ss_cons, a2, seqS_nx, ss_cons, a3]
      rfl
    · have ha : a < l.length := by omega
      have b3 : ((a : Int) == (l.length : Int)) = false := by rw [beq_eq_false_iff_ne]; omega
      have a3 : evS (C (k + 1)) rW3 (rSt b m l ls p a z (some (.int (w : Nat))) (some (T [c]))) h2 = .ok .nx (rSt b m l ls p a z (some (.int (w : Nat))) (some (T [c]))) h2 := by
        simp -dsimp [ln, b3]
      have f4 := q4 ha
      have la : l[a]? = some l[a] := List.getElem?_eq_getElem ha
      rw [ss_cons, a1, seqS_nx, ss_cons, a2, seqS_nx, ss_cons, a3, seqS_nx, ss_one, rW4_eq, s_ife_, f4, liftE_ok]
      by_cases g4 : w = 1 ∧ m.turn.isSome = true ∧ a + 1 < l.length ∧ l[a]? ≠ l[a + 1]?
      · rw [decide_eq_true g4]
        obtain ⟨_, t1, t2, t3⟩ := g4
        have la1 : l[a + 1]? = some l[a + 1] := List.getElem?_eq_getElem t2
        have hne : l[a] ≠ l[a + 1] := fun z => t3 (by rw [la, la1, z])
        have es : stepS m.turn.isSome l a .turn = some ([l[a + 1], l[a]], 2) := by
          simp [stepS, t1, la, la1, hne]
        refine ⟨h2.set p (.lst ((ss ++ [Stp.turn]).map stW1)), some (.int (w : Nat)), some (T [c]), .inl ⟨.turn, a + 2, z + 2, .nx, .inl rfl, ?_, i2.step hs hp hp0 (s := .turn) es rfl (by simp; omega), by omega⟩⟩
        have em : (ss ++ [Stp.turn]).map stW1 = ss.map stW1 ++ [.tup [.str "turn"]] := by rw [List.map_append]; rfl
        rw [em, ifS_t]
        simp -dsimp [ap, il, sz]
      · rw [decide_eq_false g4, ifS_f]
        by_cases g5 : w = 2
        · subst g5
          have es : stepS m.turn.isSome l a .drop = some ([], 1) := by simp [stepS, la]
          refine ⟨h2.set p (.lst ((ss ++ [Stp.drop]).map stW1)), some (.int 2), some (T [c]), .inl ⟨.drop, a + 1, z, .nx, .inl rfl, ?_, i2.step hs hp hp0 (s := .drop) es rfl (by simp; omega), by omega⟩⟩
          have em : (ss ++ [Stp.drop]).map stW1 = ss.map stW1 ++ [.tup [.str "drop"]] := by rw [List.map_append]; rfl
          rw [em]
          simp -dsimp [ap, il, sz]
        · have b5 : ((w : Int) == 2) = false := by rw [beq_eq_false_iff_ne]; omega
          have s1 := sub_T h2 (i := a) (by omega) la
          by_cases g6 : w = 3 ∧ c ≠ l[a]
          · obtain ⟨rfl, g6⟩ := g6
            have es : stepS m.turn.isSome l a (.swap c) = some ([c], 1) := by simp [stepS, la, g6]
            refine ⟨h2.set p (.lst ((ss ++ [Stp.swap c]).map stW1)), some (.int 3), some (T [c]), .inl ⟨.swap c, a + 1, z + 1, .nx, .inl rfl, ?_, i2.step hs hp hp0 (s := .swap c) es c1 (by simp; omega), by omega⟩⟩
            have em : (ss ++ [Stp.swap c]).map stW1 = ss.map stW1 ++ [.tup [.str "swap", T [c]]] := by rw [List.map_append]; rfl
            rw [em]
            simp -dsimp [ap, il, sz, s1, S_beq, g6]
          · have es : stepS m.turn.isSome l a .keep = some ([l[a]], 1) := by simp [stepS, la]
            refine ⟨h2.set p (.lst ((ss ++ [Stp.keep]).map stW1)), some (.int (w : Nat)), some (T [c]), .inl ⟨.keep, a + 1, z + 1, .nx, .inl rfl, ?_, i2.step hs hp hp0 (s := .keep) es rfl (by simp; omega), by omega⟩⟩
            have em : (ss ++ [Stp.keep]).map stW1 = ss.map stW1 ++ [.tup [.str "keep"]] := by rw [List.map_append]; rfl
            rw [em]
            by_cases g7 : w = 3
            · subst g7
              have g8 : c = l[a] := Classical.byContradiction fun z => g6 ⟨rfl, z⟩
              rw [← g8] at s1
              simp -dsimp [ap, il, sz, s1, S_beq]
            · have b7 : ((w : Int) == 3) = false := by rw [beq_eq_false_iff_ne]; omega
              simp -dsimp [ap, il, sz, b5, b7]
end L08
set_option maxRecDepth 100000
set_option maxHeartbeats 4000000
namespace L08
open PySem PySem.Spec PyProof.Rows MP
theorem RI.le' {tn : Bool} {l : List Nat} {b p : Nat} {h0 : List O} {n n' : Nat} {h : List O} {ss : List Stp} {a z : Nat} (i : RI tn l b p h0 n h ss a z) (hn : n ≤ n') : RI tn l b p h0 n' h ss a z := ⟨i.rd, i.le, i.six, i.sms, i.at', i.bx.le hn, i.gr⟩
theorem row_while (k b : Nat) (m : Mo) (l ls : List Nat) (p : Nat) (h0 : List O) (hl : l.length ≤ 6) (hs : l.all sm = true) (hL : okL ls) (hp : p ≠ b) (hp0 : h0.length ≤ p) : ∀ (fuel n : Nat) (h : List O) (ss : List Stp) (a z : Nat) (o7 o8 : Option W), (l.length - a) + (6 - z) < fuel → n + 3 * ((l.length - a) + (6 - z)) < 200000 → (l.length - a) + (6 - z) ≤ 12 → ss.length + ((l.length - a) + (6 - z)) ≤ 12 → RI m.turn.isSome l b p h0 n h ss a z →
    ∃ h' ss' z' o7' o8', whileL (ev (C (k + 1)).cn wc__law_row_0).t (evSs (C (k + 1)) wb__law_row_0) fuel (rSt b m l ls p a z o7 o8) h = .ok .nx (rSt b m l ls p l.length z' o7' o8') h' ∧ RI m.turn.isSome l b p h0 (n + 3 * ((l.length - a) + (6 - z)) + 3) h' ss' l.length z' ∧ ss'.length ≤ 12
  | 0, n, h, ss, a, z, o7, o8, hf, _, _, _, _ => absurd hf (Nat.not_lt_zero _)
  | fuel + 1, n, h, ss, a, z, o7, o8, hf, hn, h12, hss, i => by
    have le := i.le
    have en := len_T h (a := l) (by omega)
    -- a turn that begins in a heap after the draw of the condition
    have go : ∀ h1 n1, n1 ≤ n + 1 → RI m.turn.isSome l b p h0 n1 h1 ss a z → ∃ h' ss' z' o7' o8', turnS (evSs (C (k + 1)) wb__law_row_0 (rSt b m l ls p a z o7 o8) h1) (whileL (ev (C (k + 1)).cn wc__law_row_0).t (evSs (C (k + 1)) wb__law_row_0) fuel) = .ok .nx (rSt b m l ls p l.length z' o7' o8') h' ∧ RI m.turn.isSome l b p h0 (n + 3 * ((l.length - a) + (6 - z)) + 3) h' ss' l.length z' ∧ ss'.length ≤ 12 := by
      intro h1 n1 hn1 i1
      obtain ⟨h2, o7', o8', q⟩ := row_turn k b m l ls p h0 hl hs hL hp hp0 n1 (by omega) h1 ss (by omega) a z i1 o7 o8
      rcases q with ⟨s, a', z', f, hf', e, i2, hlt⟩ | ⟨e, i2, ha⟩
      · obtain ⟨h', ss', z'', o7'', o8'', e2, i3, l3⟩ := row_while k b m l ls p h0 hl hs hL hp hp0 fuel (n1 + 2) h2 (ss ++ [s]) a' z' o7' o8' (by omega) (by omega) (by omega) (by simp; omega) i2
        refine ⟨h', ss', z'', o7'', o8'', ?_, i3.le' (by omega), l3⟩
        rw [e]
        rcases hf' with rfl | rfl
        · exact e2
        · exact e2
      · subst ha
        refine ⟨h2, ss, z, o7', o8', ?_, i2.le' (by omega), by omega⟩
        rw [e]
        rfl
    rw [while_s]
    by_cases ha : a < l.length
    · have ha' : (a : Int) < l.length := by omega
      have ec : (ev (C (k + 1)).cn wc__law_row_0).t (rSt b m l ls p a z o7 o8) h = .ok true h := by
        simp -dsimp [en, ha']
      rw [ec, liftE_ok, if_pos rfl]
      exact go h n (by omega) i
    · have hae : a = l.length := by omega
      have ha' : ¬ ((a : Int) < l.length) := by omega
      by_cases hz : z < 6
      · obtain ⟨r, h1, e1, r1, b1, d1⟩ := take_ok k h b n 3 i.bx (by omega) (by omega) (by omega)
        have hz' : (z : Int) < 6 := by omega
        simp -dsimp at e1
        by_cases hr : r = 0
        · subst hr
          have ec : (ev (C (k + 1)).cn wc__law_row_0).t (rSt b m l ls p a z o7 o8) h = .ok true h1 := by
            simp -dsimp [en, ha', hz', e1]
          rw [ec, liftE_ok, if_pos rfl]
          exact go h1 (n + 1) (by omega) (i.draw hp b1 d1)
        · have hr' : ((r : Int) == 0) = false := by rw [beq_eq_false_iff_ne]; omega
          have ec : (ev (C (k + 1)).cn wc__law_row_0).t (rSt b m l ls p a z o7 o8) h = .ok false h1 := by
            simp -dsimp [en, ha', hz', e1, hr']
          rw [ec, liftE_ok, if_neg Bool.false_ne_true, hae]
          rw [hae] at i
          exact ⟨h1, ss, z, o7, o8, rfl, (i.draw hp b1 d1).le' (by omega), by omega⟩
      · have hz' : ¬ ((z : Int) < 6) := by omega
        have ec : (ev (C (k + 1)).cn wc__law_row_0).t (rSt b m l ls p a z o7 o8) h = .ok false h := by
          simp -dsimp [en, ha', hz']
        rw [ec, liftE_ok, if_neg Bool.false_ne_true, hae]
        rw [hae] at i
        exact ⟨h, ss, z, o7, o8, rfl, i.le' (by omega), by omega⟩
theorem cls_sts (ss : List Stp) : MP.cls (ss.map stW1) = true := by
  rw [MP.cls_all, List.all_map]
  exact List.all_eq_true.mpr fun s _ => by cases s <;> rfl
theorem row_ok (k b n : Nat) (m : Mo) (l ls : List Nat) (hl : l.length ≤ 6) (hs : l.all sm = true) (hL : okL ls) (h : List O) (hb : Bx b n h) (hn : n < 10000) : ∃ (sts : List Stp) (t : List Nat) (h' : List O), (C (k + 2)).cn.call "_law_row" [.ref b, moW m, T l, T ls] h = .ok (.slst (sts.map stW1)) h' ∧ sts.length ≤ 12 ∧ sts.all smS = true ∧ (∀ hh, Row hh m.turn.isSome l (.slst (sts.map stW1)) (sts.map stW1) sts t) ∧ Bx b (n + 40) h' ∧ Bd b h h' := by
  have hlt := hb.lt
  have hf : (C (k + 1)).cn.fuel = 10 ^ 60 := rfl
  obtain ⟨h', ss, z, o7, o8, e, i, l12⟩ := row_while k b m l ls h.length h hl hs hL (by omega) (Nat.le_refl _) (10 ^ 60) n (h ++ [.lst []]) [] 0 0 none none (Nat.lt_of_le_of_lt (show _ ≤ 12 by omega) (by decide)) (by omega) (by omega) (by simp; omega) ⟨⟨[], rfl, rfl, rfl⟩, by omega, by omega, rfl, get_last _ _, hb.app, .app _⟩
  obtain ⟨t, e1, e2, e3⟩ := i.rd
  have six := i.six
  refine ⟨ss, t, h'.take h.length, ?_, l12, i.sms, fun hh => ⟨rfl, ?_, e1, by omega, e3⟩, (i.bx.take hlt).le (by omega), i.gr.take⟩
  · rw [call__law_row, runF_of rfl, rB_body]
    have a1 : evS (C (k + 1)) rB1 [some (.ref b), some (moW m), some (T l), some (T ls), none, none, none, none, none] h = .ok .nx (rSt b m l ls h.length 0 0 none none) (h ++ [.lst []]) := by
      simp -dsimp [sz]
    show gcF true h (endF (evSs (C (k + 1)) _ [some (.ref b), some (moW m), some (T l), some (T ls), none, none, none, none, none] h)) = _
    rw [ss_cons, a1, seqS_nx, ss_cons]
    have a2 : evS (C (k + 1)) rB2 (rSt b m l ls h.length 0 0 none none) (h ++ [.lst []]) = .ok .nx (rSt b m l ls h.length l.length z o7 o8) h' := by
      show whileL _ _ (C (k + 1)).cn.fuel _ _ = _
      rw [hf]
      exact e
    rw [a2, seqS_nx, ss_one]
    show gcF true h (.ok (.ref h.length) h') = _
    rw [gcF_t, gcR_gr i.gr i.bx (dz_list (Nat.le_refl _) i.at' (cls_sts _))]
  · rw [List.map_map]
    refine List.map_congr_left fun s hs' => ?_
    exact stepOf_stW (List.all_eq_true.mp i.sms s hs')
end L08
set_option maxRecDepth 100000
set_option maxHeartbeats 4000000
namespace L08
open PySem PySem.Spec PyProof.Rows MP
/-! ### the row back -/
def bkS (p : Stp × List Nat) : Stp := match p.1 with
  | .add _ => .drop
  | .drop => .add (p.2.headD 0)
  | .swap _ => .swap (p.2.headD 0)
  | s => s
theorem stepS_at {tn : Bool} {l : List Nat} {i : Nat} {s : Stp} {r : List Nat × Nat} (e : stepS tn l i s = some r) : ((l.drop i).take s.many).length = s.many ∧ r.2 = s.many := by
  refine ⟨?_, stepS_many e⟩
  rw [List.length_take, List.length_drop]
  cases s with
  | add c => show min 0 _ = 0; omega
  | turn =>
    simp only [stepS] at e
    split at e
    · split at e
      · rename_i a b q1 q2
        have := (List.getElem?_eq_some_iff.mp q2).1
        show min 2 _ = 2
        omega
      · cases e
    · cases e
  | keep =>
    simp only [stepS, Option.map_eq_some_iff] at e
    obtain ⟨a, q1, _⟩ := e
    have := (List.getElem?_eq_some_iff.mp q1).1
    show min 1 _ = 1
    omega
  | drop =>
    simp only [stepS, Option.map_eq_some_iff] at e
    obtain ⟨a, q1, _⟩ := e
    have := (List.getElem?_eq_some_iff.mp q1).1
    show min 1 _ = 1
    omega
  | swap c =>
    simp only [stepS, Option.bind_eq_some_iff] at e
    obtain ⟨a, q1, _⟩ := e
    have := (List.getElem?_eq_some_iff.mp q1).1
    show min 1 _ = 1
    omega
theorem take1_of {l : List Nat} {i a : Nat} (e : l[i]? = some a) : (l.drop i).take 1 = [a] := by
  have hlt := (List.getElem?_eq_some_iff.mp e).1
  have e2 := (List.getElem?_eq_some_iff.mp e).2
  rw [List.drop_eq_getElem_cons hlt, e2]
  rfl
theorem take2_of {l : List Nat} {i a b : Nat} (e : l[i]? = some a) (e' : l[i + 1]? = some b) : (l.drop i).take 2 = [a, b] := by
  have hlt := (List.getElem?_eq_some_iff.mp e).1
  have e2 := (List.getElem?_eq_some_iff.mp e).2
  rw [List.drop_eq_getElem_cons hlt, e2, List.take_succ_cons, take1_of e']
theorem at_of {X : List Nat} {p : Nat} {u v : List Nat} (h : X.drop p = u ++ v) {j a : Nat} (e : u[j]? = some a) : X[p + j]? = some a := by
  have hlt := (List.getElem?_eq_some_iff.mp e).1
  have : (X.drop p)[j]? = some a := by rw [h, List.getElem?_append_left hlt]; exact e
  rw [← this, List.getElem?_drop]
/-- a step is led back -/
theorem step_back {tn : Bool} {l : List Nat} {i : Nat} {s : Stp} {r : List Nat × Nat} (e : stepS tn l i s = some r) {X v : List Nat} {p : Nat} (h : X.drop p = r.1 ++ v) :
    stepS tn X p (bkS (s, (l.drop i).take s.many)) = some ((l.drop i).take s.many, r.1.length) ∧ bkS (bkS (s, (l.drop i).take s.many), (X.drop p).take (bkS (s, (l.drop i).take s.many)).many) = s := by
  cases s with
  | add c =>
    cases e
    have q : X[p]? = some c := at_of h (j := 0) rfl
    refine ⟨?_, ?_⟩
    · show (X[p]?.map fun _ => ([], 1)) = _
      rw [q]; rfl
    · show Stp.add (((X.drop p).take 1).headD 0) = _
      rw [take1_of q]; rfl
  | turn =>
    simp only [stepS] at e
    split at e
    · rename_i ht
      split at e
      · rename_i a b q1 q2
        split at e
        · cases e
        · rename_i hab
          cases e
          have x1 : X[p]? = some b := at_of h (j := 0) rfl
          have x2 : X[p + 1]? = some a := at_of h (j := 1) rfl
          have e2 : (l.drop i).take 2 = [a, b] := take2_of q1 q2
          refine ⟨?_, rfl⟩
          show stepS tn X p .turn = some ((l.drop i).take 2, 2)
          rw [e2]
          simp only [stepS, ht, if_true, x1, x2]
          rw [if_neg (Ne.symm hab)]
      · cases e
    · cases e
  | keep =>
    simp only [stepS, Option.map_eq_some_iff] at e
    obtain ⟨a, q1, rfl⟩ := e
    have x1 : X[p]? = some a := at_of h (j := 0) rfl
    refine ⟨?_, rfl⟩
    show (X[p]?.map fun a => ([a], 1)) = some ((l.drop i).take 1, 1)
    rw [x1, take1_of q1]; rfl
  | drop =>
    simp only [stepS, Option.map_eq_some_iff] at e
    obtain ⟨a, q1, rfl⟩ := e
    refine ⟨?_, rfl⟩
    show some ([((l.drop i).take 1).headD 0], 0) = some ((l.drop i).take 1, 0)
    rw [take1_of q1]; rfl
  | swap c =>
    simp only [stepS, Option.bind_eq_some_iff] at e
    obtain ⟨a, q1, e⟩ := e
    split at e
    · cases e
    · rename_i hca
      cases e
      have x1 : X[p]? = some c := at_of h (j := 0) rfl
      refine ⟨?_, ?_⟩
      · show (X[p]?.bind fun z => if ((l.drop i).take 1).headD 0 = z then none else some ([((l.drop i).take 1).headD 0], 1)) = some ((l.drop i).take 1, 1)
        rw [x1, take1_of q1]
        show (if a = c then none else some ([a], 1)) = _
        rw [if_neg (Ne.symm hca)]
      · show Stp.swap (((X.drop p).take 1).headD 0) = _
        rw [take1_of x1]; rfl
theorem readS_pre {tn : Bool} {l : List Nat} : ∀ {ss : List Stp} {t : List Nat} {i : Nat} {T : List Nat} {I : Nat}, readS tn l ss t i = some (T, I) → ∃ u, T = t ++ u ∧ i ≤ I
  | [], t, i, T, I, h => by cases h; exact ⟨[], by simp, Nat.le_refl _⟩
  | s :: ss, t, i, T, I, h => by
    rw [readS, Option.bind_eq_some_iff] at h
    obtain ⟨r, e, h⟩ := h
    obtain ⟨u, e2, e3⟩ := readS_pre h
    exact ⟨r.1 ++ u, by rw [e2, List.append_assoc], by omega⟩
theorem drop_take {l : List Nat} {i j k : Nat} (h : i ≤ j) (h2 : j ≤ k) : (l.drop i).take (j - i) ++ (l.drop j).take (k - j) = (l.drop i).take (k - i) := by
  have e : l.drop j = (l.drop i).drop (j - i) := by rw [List.drop_drop]; congr 1; omega
  rw [e, ← List.take_add]
  congr 1
  omega
/-- a row is led back -/
theorem read_back {tn : Bool} {l : List Nat} : ∀ {ss : List Stp} {t : List Nat} {i : Nat} {T : List Nat} {I : Nat}, readS tn l ss t i = some (T, I) → i ≤ l.length → ∀ {u v X : List Nat} {p : Nat} (z : List Nat), T = t ++ u → X.drop p = u ++ v →
    readS tn X ((metS l ss i).map bkS) z p = some (z ++ (l.drop i).take (I - i), p + u.length) ∧ (metS X ((metS l ss i).map bkS) p).map bkS = ss
  | [], t, i, T, I, h, hi, u, v, X, p, z, hT, hX => by
    cases h
    have : u = [] := by simpa using hT
    subst this
    exact ⟨by simp [metS, readS], rfl⟩
  | s :: ss, t, i, T, I, h, hi, u, v, X, p, z, hT, hX => by
    rw [readS, Option.bind_eq_some_iff] at h
    obtain ⟨r, e, h⟩ := h
    obtain ⟨u', e2, e3⟩ := readS_pre h
    obtain ⟨q1, q2⟩ := stepS_at e
    obtain ⟨le, _⟩ := stepS_le e hi
    have hu : u = r.1 ++ u' := by
      rw [hT, List.append_assoc] at e2
      exact List.append_cancel_left e2
    subst hu
    rw [List.append_assoc] at hX
    obtain ⟨b1, b2⟩ := step_back e hX
    have hX2 : X.drop (p + r.1.length) = u' ++ v := by
      rw [← List.drop_drop, hX, List.drop_append]
      simp
    have bm := stepS_many b1
    dsimp only at bm
    rw [q2] at h e3 le
    obtain ⟨i1, i2⟩ := read_back h le (z ++ (l.drop i).take s.many) e2 hX2
    constructor
    · rw [metS, List.map_cons, readS, b1, Option.bind_some]
      dsimp only
      rw [i1, List.append_assoc, List.length_append]
      have := drop_take (l := l) (i := i) (j := i + s.many) (k := I) (by omega) e3
      rw [Nat.add_sub_cancel_left] at this
      rw [this, Nat.add_assoc]
    · rw [metS, List.map_cons, metS, List.map_cons, b2, ← bm, i2]
end L08
set_option maxRecDepth 100000
set_option maxHeartbeats 4000000
namespace L08
open PySem PySem.Spec PyProof.Rows MP
theorem backS_bk {tn : Bool} {p : Stp × List Nat} (o : okM tn p) : backS p = stW1 (bkS p) ∧ smS (bkS p) = true := by
  obtain ⟨s, ls⟩ := p
  cases s with
  | add c => exact ⟨rfl, rfl⟩
  | keep => exact ⟨rfl, rfl⟩
  | turn => exact ⟨rfl, rfl⟩
  | drop =>
    obtain ⟨a, e, ha⟩ := o
    dsimp only at e
    subst e
    exact ⟨rfl, ha⟩
  | swap c =>
    obtain ⟨a, e, ha, _⟩ := o
    dsimp only at e
    subst e
    exact ⟨rfl, ha⟩
theorem map_backS {tn : Bool} {ps : List (Stp × List Nat)} (o : ∀ p ∈ ps, okM tn p) : ps.map backS = (ps.map bkS).map stW1 := by
  rw [List.map_map]
  exact List.map_congr_left fun p hp => (backS_bk (o p hp)).1
theorem st_stW {ss : List Stp} (h : ss.all smS = true) : (ss.map stW1).map stepOf = ss.map some := by
  rw [List.map_map]
  exact List.map_congr_left fun s hs => stepOf_stW (List.all_eq_true.mp h s hs)
theorem sms_of : ∀ {ws : List W} {sts : List Stp}, ws.map stepOf = sts.map some → sts.all smS = true
  | [], [], _ => rfl
  | [], _ :: _, h => by cases h
  | _ :: _, [], h => by cases h
  | w :: ws, s :: ss, h => by
    rw [List.map_cons, List.map_cons] at h
    injection h with h1 h2
    obtain ⟨_, hc⟩ := stepOf_its h1
    rw [List.all_cons, sms_of h2, Bool.and_true]
    cases s with
    | add c => exact hc c (.inl rfl)
    | swap c => exact hc c (.inr rfl)
    | keep => rfl
    | drop => rfl
    | turn => rfl
/-- the row back is a row of the text -/
theorem Row.back {h : List O} {tn : Bool} {l : List Nat} {w : W} {ws : List W} {sts : List Stp} {t : List Nat} (r : Row h tn l w ws sts t) (hl : l.length ≤ 6) (hs : l.all L08.sm = true) {h' : List O} {w' : W} (hw : itsH h' w' = some ((metS l sts 0).map backS)) : Row h' tn t w' ((metS l sts 0).map backS) ((metS l sts 0).map bkS) l := by
  have o := metS_ok hs r.st r.rd
  have e := map_backS o
  obtain ⟨b1, b2⟩ := read_back r.rd (Nat.zero_le _) (u := t) (v := []) (X := t) (p := 0) [] rfl (by simp)
  have hm : ((metS l sts 0).map bkS).all smS = true := by
    rw [List.all_map]
    exact List.all_eq_true.mpr fun p hp => (backS_bk (o p hp)).2
  refine ⟨hw, by rw [e]; exact st_stW hm, ?_, hl, hs⟩
  rw [b1]
  simp
theorem Row.back2 {h : List O} {tn : Bool} {l : List Nat} {w : W} {ws : List W} {sts : List Stp} {t : List Nat} (r : Row h tn l w ws sts t) (hl : l.length ≤ 6) (hs : l.all L08.sm = true) : (metS t ((metS l sts 0).map bkS) 0).map backS = sts.map stW1 := by
  obtain ⟨b1, b2⟩ := read_back r.rd (Nat.zero_le _) (u := t) (v := []) (X := t) (p := 0) [] rfl (by simp)
  have rb := r.back hl hs (h' := h) (w' := .slst ((metS l sts 0).map backS)) rfl
  have o2 := metS_ok r.sm rb.st rb.rd
  rw [map_backS o2, b2]
/-! ### the mirrored row -/
theorem step_rev {m : Mo} {l : List Nat} {i : Nat} {s : Stp} {r : List Nat × Nat} {tn : Bool} (e : stepS tn l i s = some r) {Y v : List Nat} {p : Nat} (h : Y.drop p = ((l.drop i).take s.many).reverse ++ v) : stepS tn Y p s = some (r.1.reverse, s.many) ∧ costOf m (s, (Y.drop p).take s.many) = costOf m (s, (l.drop i).take s.many) := by
  cases s with
  | add c => cases e; exact ⟨rfl, rfl⟩
  | turn =>
    simp only [stepS] at e
    split at e
    · rename_i ht
      split at e
      · rename_i a b q1 q2
        split at e
        · cases e
        · rename_i hab
          cases e
          have e2 : (l.drop i).take 2 = [a, b] := take2_of q1 q2
          have h' : Y.drop p = [b, a] ++ v := by
            have : (l.drop i).take Stp.turn.many = [a, b] := e2
            rw [this] at h
            exact h
          have x1 : Y[p]? = some b := at_of h' (j := 0) rfl
          have x2 : Y[p + 1]? = some a := at_of h' (j := 1) rfl
          refine ⟨?_, rfl⟩
          simp only [stepS, ht, if_true, x1, x2]
          rw [if_neg (Ne.symm hab)]
          rfl
      · cases e
    · cases e
  | keep =>
    simp only [stepS, Option.map_eq_some_iff] at e
    obtain ⟨a, q1, rfl⟩ := e
    have t1 : (l.drop i).take Stp.keep.many = [a] := take1_of q1
    rw [t1] at h
    have x1 : Y[p]? = some a := at_of h (j := 0) rfl
    refine ⟨?_, rfl⟩
    show (Y[p]?.map fun a => ([a], 1)) = _
    rw [x1]; rfl
  | drop =>
    simp only [stepS, Option.map_eq_some_iff] at e
    obtain ⟨a, q1, rfl⟩ := e
    have t1 : (l.drop i).take Stp.drop.many = [a] := take1_of q1
    rw [t1] at h
    have x1 : Y[p]? = some a := at_of h (j := 0) rfl
    refine ⟨?_, rfl⟩
    show (Y[p]?.map fun _ => ([], 1)) = _
    rw [x1]; rfl
  | swap c =>
    simp only [stepS, Option.bind_eq_some_iff] at e
    obtain ⟨a, q1, e⟩ := e
    have t1 : (l.drop i).take (Stp.swap c).many = [a] := take1_of q1
    rw [t1] at h ⊢
    have x1 : Y[p]? = some a := at_of h (j := 0) rfl
    split at e
    · cases e
    · rename_i hca
      cases e
      refine ⟨?_, ?_⟩
      · show (Y[p]?.bind fun z => if c = z then none else some ([c], 1)) = _
        rw [x1]
        show (if c = a then none else some ([c], 1)) = _
        rw [if_neg hca]
        rfl
      · have : (Y.drop p).take (Stp.swap c).many = [a] := take1_of x1
        rw [this]
theorem metS_snoc {tn : Bool} {Y : List Nat} {s : Stp} : ∀ {A : List Stp} {z : List Nat} {q : Nat} {Z : List Nat} {Q : Nat}, readS tn Y A z q = some (Z, Q) → metS Y (A ++ [s]) q = metS Y A q ++ [(s, (Y.drop Q).take s.many)]
  | [], z, q, Z, Q, h => by cases h; rfl
  | a :: A, z, q, Z, Q, h => by
    rw [readS, Option.bind_eq_some_iff] at h
    obtain ⟨r, e, h⟩ := h
    rw [stepS_many e] at h
    rw [List.cons_append, metS, metS, metS_snoc h]
    rfl
theorem read_rev {m : Mo} {tn : Bool} {l : List Nat} : ∀ {ss : List Stp} {t : List Nat} {i : Nat} {T : List Nat} {I : Nat}, readS tn l ss t i = some (T, I) → i ≤ l.length → ∀ {u v Y : List Nat} {q : Nat} (z : List Nat), T = t ++ u → Y.drop q = ((l.drop i).take (I - i)).reverse ++ v →
    readS tn Y ss.reverse z q = some (z ++ u.reverse, q + (I - i)) ∧ (metS Y ss.reverse q).map (costOf m) = ((metS l ss i).map (costOf m)).reverse
  | [], t, i, T, I, h, hi, u, v, Y, q, z, hT, hY => by
    cases h
    have : u = [] := by simpa using hT
    subst this
    exact ⟨by simp [readS], rfl⟩
  | s :: ss, t, i, T, I, h, hi, u, v, Y, q, z, hT, hY => by
    rw [readS, Option.bind_eq_some_iff] at h
    obtain ⟨r, e, h⟩ := h
    obtain ⟨u', e2, e3⟩ := readS_pre h
    obtain ⟨q1, q2⟩ := stepS_at e
    obtain ⟨le, _⟩ := stepS_le e hi
    have hu : u = r.1 ++ u' := by
      rw [hT, List.append_assoc] at e2
      exact List.append_cancel_left e2
    subst hu
    rw [q2] at h e3 le
    have dt := drop_take (l := l) (i := i) (j := i + s.many) (k := I) (by omega) e3
    rw [Nat.add_sub_cancel_left] at dt
    rw [← dt, List.reverse_append, List.append_assoc] at hY
    obtain ⟨i1, i2⟩ := read_rev (m := m) h le (v := ((l.drop i).take s.many).reverse ++ v) (Y := Y) (q := q) z e2 hY
    have rlen : ((l.drop (i + s.many)).take (I - (i + s.many))).reverse.length = I - (i + s.many) ∨ True := .inr trivial
    have hY2 : Y.drop (q + (I - (i + s.many))) = ((l.drop i).take s.many).reverse ++ v := by
      have hI : I ≤ l.length := readS_le h le
      rw [← List.drop_drop, hY, List.drop_append_of_le_length (by rw [List.length_reverse, List.length_take, List.length_drop]; omega)]
      rw [List.drop_of_length_le (by rw [List.length_reverse, List.length_take, List.length_drop]; omega), List.nil_append]
    obtain ⟨s1, s2⟩ := step_rev (m := m) e hY2
    constructor
    · rw [List.reverse_cons, readS_snoc i1 s1]
      simp only [List.reverse_append, List.append_assoc]
      congr 2
      omega
    · rw [List.reverse_cons, metS_snoc i1, List.map_append, i2, List.map_cons, List.map_nil, s2, metS, List.map_cons, List.reverse_cons]
where
  readS_le {tn : Bool} {l : List Nat} : ∀ {ss : List Stp} {t : List Nat} {i : Nat} {T : List Nat} {I : Nat}, readS tn l ss t i = some (T, I) → i ≤ l.length → I ≤ l.length
    | [], t, i, T, I, h, hi => by cases h; exact hi
    | s :: ss, t, i, T, I, h, hi => by
      rw [readS, Option.bind_eq_some_iff] at h
      obtain ⟨r, e, h⟩ := h
      exact readS_le h (stepS_le e hi).1
theorem Row.mirror {h : List O} {tn : Bool} {l : List Nat} {w : W} {ws : List W} {sts : List Stp} {t : List Nat} (r : Row h tn l w ws sts t) {h' : List O} {w' : W} (hw : itsH h' w' = some (sts.map stW1).reverse) : Row h' tn l.reverse w' (sts.map stW1).reverse sts.reverse t.reverse := by
  obtain ⟨e1, _⟩ := read_rev (m := ⟨[], "", "", "", [], none⟩) r.rd (Nat.zero_le _) (u := t) (v := []) (Y := l.reverse) (q := 0) [] rfl (by simp)
  refine ⟨hw, ?_, ?_, by rw [List.length_reverse]; exact r.len, by rw [List.all_reverse]; exact r.sm⟩
  · rw [← List.map_reverse]
    exact st_stW (by rw [List.all_reverse]; exact sms_of r.st)
  · rw [e1]
    simp
theorem addC_comm : ∀ (ns : List Str) (o1 o2 : Option Str) (cs : List Int), addC ns o1 (addC ns o2 cs) = addC ns o2 (addC ns o1 cs)
  | [], o1, o2, cs => rfl
  | n :: ns, o1, o2, [] => rfl
  | n :: ns, o1, o2, c :: cs => by
    have ih := addC_comm ns o1 o2 cs
    unfold addC at ih ⊢
    simp only [List.zip_cons_cons, List.map_cons]
    rw [ih]
    congr 1
    omega
theorem fold_out {α β : Type} {f : β → α → β} (c : ∀ b x y, f (f b x) y = f (f b y) x) : ∀ (xs : List α) (b : β) (x : α), xs.foldl f (f b x) = f (xs.foldl f b) x
  | [], b, x => rfl
  | y :: xs, b, x => by
    rw [List.foldl_cons, List.foldl_cons, c b x y, fold_out c xs (f b y) x]
theorem fold_rev {α β : Type} {f : β → α → β} (c : ∀ b x y, f (f b x) y = f (f b y) x) : ∀ (xs : List α) (b : β), xs.reverse.foldl f b = xs.foldl f b
  | [], b => rfl
  | x :: xs, b => by
    rw [List.reverse_cons, List.foldl_append, List.foldl_cons, List.foldl_nil, fold_rev c xs b, List.foldl_cons, fold_out c]
theorem counts_map (m : Mo) (ps : List (Stp × List Nat)) : countsR m ps = (ps.map (costOf m)).foldl (fun cs o => addC m.names o cs) (m.names.map fun _ => 0) := by
  unfold countsR
  rw [List.foldl_map]
theorem mirror_counts {h : List O} {tn : Bool} {l : List Nat} {w : W} {ws : List W} {sts : List Stp} {t : List Nat} (m : Mo) (r : Row h tn l w ws sts t) : countsR m (metS l.reverse sts.reverse 0) = countsR m (metS l sts 0) := by
  obtain ⟨_, e2⟩ := read_rev (m := m) r.rd (Nat.zero_le _) (u := t) (v := []) (Y := l.reverse) (q := 0) [] rfl (by simp)
  rw [counts_map, e2, counts_map, fold_rev (fun b x y => addC_comm _ _ _ _)]
end L08
set_option maxRecDepth 100000
set_option maxHeartbeats 4000000
namespace L08
open PySem PySem.Spec PyProof.Rows MP
/-! ### steps' data -/
def dS : Stp → PyData
  | .keep => .tuple [.str "keep"]
  | .drop => .tuple [.str "drop"]
  | .turn => .tuple [.str "turn"]
  | .add c => .tuple [.str "add", .str (S [c])]
  | .swap c => .tuple [.str "swap", .str (S [c])]
theorem toD_stp (h : List O) (s : Stp) : toD h 11 (stW1 s) = some (dS s) := by cases s <;> rfl
theorem toD_stp2 (h : List O) (s : Stp) : toD h 12 (stW1 s) = some (dS s) := by cases s <;> rfl
theorem sm_mem {c : Nat} (h : sm c = true) : c ∈ ABC.cps.toList := by
  have e1 := in_abc [] c
  have e2 := in_T [] c ABC
  rw [e2, h] at e1
  simpa using e1
def okD (d : PyData) : Bool := d.showable && (decide (d.shown.length ≤ 60) && (d.canLay0 && decide (d.depth ≤ 3)))
theorem dS_dec : (ABC.cps.toList.all fun c => [Stp.keep, .drop, .turn, .add c, .swap c].all fun s => okD (dS s)) = true := by decide +kernel
theorem dS_ok {s : Stp} (h : smS s = true) : okD (dS s) = true := by
  have key : ∀ c, sm c = true → ∀ s ∈ [Stp.keep, .drop, .turn, .add c, .swap c], okD (dS s) = true := fun c hc s hs => List.all_eq_true.mp (List.all_eq_true.mp dS_dec c (sm_mem hc)) s hs
  cases s with
  | add c => exact key c h _ (by simp)
  | swap c => exact key c h _ (by simp)
  | keep => exact key 97 (by decide +kernel) _ (by simp)
  | drop => exact key 97 (by decide +kernel) _ (by simp)
  | turn => exact key 97 (by decide +kernel) _ (by simp)
theorem okD_all : ∀ {ds : List PyData}, ds.all okD = true → PyData.showableAll ds = true ∧ piled (PyData.shownAll ds) ≤ 62 * ds.length ∧ PyData.canLayAll0 ds = true ∧ PyData.depthAll ds ≤ 3
  | [], _ => ⟨rfl, Nat.zero_le _, rfl, Nat.zero_le _⟩
  | d :: ds, h => by
    rw [List.all_cons, Bool.and_eq_true] at h
    obtain ⟨h1, h2⟩ := h
    obtain ⟨a1, a2, a3, a4⟩ := okD_all h2
    unfold okD at h1
    simp only [Bool.and_eq_true, decide_eq_true_eq] at h1
    obtain ⟨b1, b2, b3, b4⟩ := h1
    refine ⟨by rw [PyData.showableAll, b1, a1]; rfl, ?_, by rw [PyData.canLayAll0, b3, a3]; rfl, ?_⟩
    · rw [PyData.shownAll, piled_cons, List.length_cons]; omega
    · rw [PyData.depthAll]; omega
abbrev LD (ss : List Stp) : PyData := .list (ss.map dS)
theorem LD_ok {ss : List Stp} (h : ss.all smS = true) (hl : ss.length ≤ 100) : ((LD ss).showable && decide ((LD ss).shown.length ≤ 16777216)) = true ∧ SeqAt.shaped (LD ss) = true := by
  have ha : (ss.map dS).all okD = true := by
    rw [List.all_map]
    exact List.all_eq_true.mpr fun s hs => dS_ok (List.all_eq_true.mp h s hs)
  obtain ⟨a1, a2, a3, a4⟩ := okD_all ha
  rw [List.length_map] at a2
  constructor
  · have e1 : (LD ss).showable = true := a1
    have e2 : (LD ss).shown.length ≤ 16777216 := by
      have := listText_up (PyData.shownAll (ss.map dS))
      show (listText (PyData.shownAll (ss.map dS))).length ≤ _
      omega
    rw [e1, decide_eq_true e2]; rfl
  · unfold SeqAt.shaped
    rw [PyData.canLay0, PyData.depth, a3, decide_eq_true (by omega)]; rfl
theorem datO_sl (h : List O) (ss : List Stp) : datO h (.inr (.slst (ss.map stW1))) = some (LD ss) := by
  show toD h 12 _ = _
  rw [toD_slst, mapM_pure (d := dS) (toD_stp h)]; rfl
theorem datO_in (h : List O) (ss : List Stp) : datO h (.inl (ss.map stW1)) = some (LD ss) := by
  show ((ss.map stW1).mapM (toD h 12)).map PyData.list = _
  rw [mapM_pure (d := dS) (toD_stp2 h)]; rfl
theorem datO_rf {h : List O} {n : Nat} {ss : List Stp} (e : h[n]? = some (.lst (ss.map stW1))) : datO h (.inr (.ref n)) = some (LD ss) := by
  show toD h 12 _ = _
  rw [toD, e]
  dsimp only
  rw [mapM_pure (d := dS) (toD_stp h)]; rfl
section
variable {ss : List Stp} (hs : ss.all smS = true) (hl : ss.length ≤ 100) (h : List O)
include hs hl
theorem rp_sl : reprO h (.inr (.slst (ss.map stW1))) = .ok (.str (LD ss).shown) h := repr_of (datO_sl h ss) (LD_ok hs hl).1
theorem rp_in : reprO h (.inl (ss.map stW1)) = .ok (.str (LD ss).shown) h := repr_of (datO_in h ss) (LD_ok hs hl).1
theorem rp_rf {n : Nat} (e : h[n]? = some (.lst (ss.map stW1))) : reprO h (.inr (.ref n)) = .ok (.str (LD ss).shown) h := repr_of (datO_rf e) (LD_ok hs hl).1
theorem eq_rf {n : Nat} (e : h[n]? = some (.lst (ss.map stW1))) : eqO h (.inr (.ref n)) (.inr (.slst (ss.map stW1))) = some true := eqO_refl (datO_rf e) (datO_sl h ss) (LD_ok hs hl).2 (fun x y e1 e2 => by cases e1; cases e2; rfl)
end
/-! ### counts are small -/
theorem addC_small (k : Int) : ∀ (ns : List Str) (o : Option Str) (cs : List Int), (∀ c ∈ cs, 0 ≤ c ∧ c ≤ k) → ∀ c ∈ addC ns o cs, 0 ≤ c ∧ c ≤ k + 1
  | [], o, cs, _ => fun c h => nomatch h
  | n :: ns, o, [], _ => fun c h => nomatch h
  | n :: ns, o, c0 :: cs, hc => by
    intro c h
    have e : addC (n :: ns) o (c0 :: cs) = (c0 + (if eqN n o = true then 1 else 0)) :: addC ns o cs := rfl
    rw [e] at h
    rcases List.mem_cons.mp h with rfl | h
    · have := hc c0 List.mem_cons_self
      split <;> omega
    · exact addC_small k ns o cs (fun x hx => hc x (List.mem_cons_of_mem _ hx)) c h
theorem counts_small (m : Mo) (ps : List (Stp × List Nat)) : ∀ c ∈ countsR m ps, 0 ≤ c ∧ c ≤ ps.length := by
  unfold countsR
  have key : ∀ (ps : List (Stp × List Nat)) (cs : List Int) (k : Int), (∀ c ∈ cs, 0 ≤ c ∧ c ≤ k) → ∀ c ∈ ps.foldl (fun cs p => addC m.names (costOf m p) cs) cs, 0 ≤ c ∧ c ≤ k + ps.length := by
    intro ps
    induction ps with
    | nil => intro cs k hc c h; have := hc c h; simp; omega
    | cons p ps ih =>
      intro cs k hc c h
      have := ih _ (k + 1) (addC_small k m.names (costOf m p) cs hc) c h
      rw [List.length_cons]
      omega
  intro c h
  have := key ps _ 0 (by simp) c h
  omega
theorem cnt_dec : ((List.range 100).all fun i => okD (.int (i : Int))) = true := by decide +kernel
theorem rp_counts (h : List O) (ns : List Int) (hn : ∀ c ∈ ns, 0 ≤ c ∧ c < 100) (hl : ns.length ≤ 100) : ∃ x : Str, reprO h (.inr (tpI ns)) = .ok (.str x) h := by
  refine ⟨_, repr_of (datO_tpI h ns) ?_⟩
  have ha : (ns.map PyData.int).all okD = true := by
    rw [List.all_map]
    refine List.all_eq_true.mpr fun c hc => ?_
    have := hn c hc
    obtain ⟨i, rfl⟩ := Int.eq_ofNat_of_zero_le this.1
    exact List.all_eq_true.mp cnt_dec i (List.mem_range.mpr (by omega))
  obtain ⟨a1, a2, _, _⟩ := okD_all ha
  rw [List.length_map] at a2
  have e1 : (PyData.tuple (ns.map .int)).showable = true := a1
  have e2 : (PyData.tuple (ns.map .int)).shown.length ≤ 16777216 := by
    have := tupleText_up (PyData.shownAll (ns.map .int))
    show (tupleText (PyData.shownAll (ns.map .int))).length ≤ _
    omega
  rw [e1, decide_eq_true e2]; rfl
end L08
set_option maxRecDepth 100000
set_option maxHeartbeats 4000000
namespace L08
open PySem PySem.Spec PyProof.Rows MP
abbrev qB1 : Ms := (.asg (.tup (.cons (.name 4) (.cons (.name 5) .nil))) (.call "_law_read" (.cons (.var 1) (.cons (.var 2) (.cons (.var 3) .nil)))))
abbrev qB2 : Ms := (.ife (.boolop .Or (.cons (.cmp .NotEq (.call "written" (.cons (.var 0) (.cons (.var 2) (.cons (.var 3) .nil)))) (.var 4)) (.cons (.cmp .NotEq (.blt "repr" (.cons (.call "counts_of" (.cons (.var 0) (.cons (.var 2) (.cons (.blt "tuple" (.cons (.var 3) .nil)) .nil)))) .nil)) (.blt "repr" (.cons (.var 5) .nil))) .nil))) (.cons (.ret (.bl false)) .nil) .nil)
abbrev qB3 : Ms := (.asg (.name 6) (.call "turned_back" (.cons (.var 0) (.cons (.var 2) (.cons (.var 3) .nil)))))
abbrev qB4 : Ms := (.ife (.boolop .Or (.cons (.cmp .NotEq (.blt "repr" (.cons (.var 6) .nil)) (.blt "repr" (.cons (.call "_law_back" (.cons (.var 2) (.cons (.var 3) .nil))) .nil))) (.cons (.cmp .NotEq (.call "turned_back" (.cons (.var 0) (.cons (.var 4) (.cons (.var 6) .nil)))) (.var 3)) .nil))) (.cons (.ret (.bl false)) .nil) .nil)
abbrev qB5 : Ms := (.ife (.cmp .NotEq (.call "written" (.cons (.var 0) (.cons (.var 4) (.cons (.var 6) .nil)))) (.var 2)) (.cons (.ret (.bl false)) .nil) .nil)
abbrev qB6 : Ms := (.ife (.cmp .NotEq (.call "counts_of" (.cons (.var 0) (.cons (.var 4) (.cons (.var 6) .nil)))) (.sub (.call "_law_read" (.cons (.var 1) (.cons (.var 4) (.cons (.var 6) .nil)))) (.int 1))) (.cons (.ret (.bl false)) .nil) .nil)
abbrev qB7 : Ms := (.asg (.name 7) (.call "mirrored" (.cons (.var 0) (.cons (.var 2) (.cons (.var 3) .nil)))))
abbrev qB8 : Ms := (.ife (.boolop .Or (.cons (.cmp .NotEq (.blt "repr" (.cons (.var 7) .nil)) (.blt "repr" (.cons (.rev (.var 3)) .nil))) (.cons (.cmp .NotEq (.call "written" (.cons (.var 0) (.cons (.p1 (.sst none none (-1)) (.var 2)) (.cons (.var 7) .nil)))) (.p1 (.sst none none (-1)) (.var 4))) .nil))) (.cons (.ret (.bl false)) .nil) .nil)
abbrev qB9 : Ms := (.ife (.cmp .NotEq (.call "counts_of" (.cons (.var 0) (.cons (.p1 (.sst none none (-1)) (.var 2)) (.cons (.var 7) .nil)))) (.var 5)) (.cons (.ret (.bl false)) .nil) .nil)
abbrev qB10 : Ms := (.expr (.bm "append" (.var 6) (.cons (.str "late1") .nil)))
abbrev qB11 : Ms := (.expr (.bm "append" (.var 7) (.cons (.str "late2") .nil)))
abbrev qB12 : Ms := (.for (.name 8) (.val (.lst (.cons (.frz (.lcomp (.frz (.blt "list" (.cons (.var 10) .nil))) (.name 10) (.val (.var 3)) .none [9, 10])) (.cons (.blt "tuple" (.cons (.var 3) .nil)) (.cons (.blt "tuple" (.cons (.lcomp (.frz (.blt "list" (.cons (.var 10) .nil))) (.name 10) (.val (.var 3)) .none [9, 10]) .nil)) .nil))))) (.cons (.ife (.cmp .NotEq (.blt "repr" (.cons (.call "turned_back" (.cons (.var 0) (.cons (.var 2) (.cons (.var 8) .nil)))) .nil)) (.blt "repr" (.cons (.call "_law_back" (.cons (.var 2) (.cons (.var 3) .nil))) .nil))) (.cons (.ret (.bl false)) .nil) .nil) (.cons (.ife (.boolop .Or (.cons (.cmp .NotEq (.blt "repr" (.cons (.call "mirrored" (.cons (.var 0) (.cons (.var 2) (.cons (.var 8) .nil)))) .nil)) (.blt "repr" (.cons (.rev (.var 3)) .nil))) (.cons (.cmp .NotEq (.call "written" (.cons (.var 0) (.cons (.var 2) (.cons (.var 8) .nil)))) (.var 4)) .nil))) (.cons (.ret (.bl false)) .nil) .nil) (.cons (.ife (.cmp .NotEq (.call "counts_of" (.cons (.var 0) (.cons (.var 2) (.cons (.var 8) .nil)))) (.var 5)) (.cons (.ret (.bl false)) .nil) .nil) .nil))))
abbrev qB13 : Ms := (.ret (.bl true))
theorem qB_body : d__law_right.body = (.cons qB1 (.cons qB2 (.cons qB3 (.cons qB4 (.cons qB5 (.cons qB6 (.cons qB7 (.cons qB8 (.cons qB9 (.cons qB10 (.cons qB11 (.cons qB12 (.cons qB13 .nil))))))))))))) := rfl
abbrev qR1 : Ms := (.ife (.cmp .NotEq (.blt "repr" (.cons (.call "turned_back" (.cons (.var 0) (.cons (.var 2) (.cons (.var 8) .nil)))) .nil)) (.blt "repr" (.cons (.call "_law_back" (.cons (.var 2) (.cons (.var 3) .nil))) .nil))) (.cons (.ret (.bl false)) .nil) .nil)
abbrev qR2 : Ms := (.ife (.boolop .Or (.cons (.cmp .NotEq (.blt "repr" (.cons (.call "mirrored" (.cons (.var 0) (.cons (.var 2) (.cons (.var 8) .nil)))) .nil)) (.blt "repr" (.cons (.rev (.var 3)) .nil))) (.cons (.cmp .NotEq (.call "written" (.cons (.var 0) (.cons (.var 2) (.cons (.var 8) .nil)))) (.var 4)) .nil))) (.cons (.ret (.bl false)) .nil) .nil)
abbrev qR3 : Ms := (.ife (.cmp .NotEq (.call "counts_of" (.cons (.var 0) (.cons (.var 2) (.cons (.var 8) .nil)))) (.var 5)) (.cons (.ret (.bl false)) .nil) .nil)
theorem qR_body : fb__law_right_0 = (.cons qR1 (.cons qR2 (.cons qR3 .nil))) := rfl
theorem cut_to1 (l : List Nat) : cutW l none (some (1 : Int)) = l.take 1 := cut_to (i := 1)
theorem lback_for (k : Nat) (h : List O) (l : List Nat) (hl : l.length ≤ 900) (a b : W) : ∀ (ss : List Stp) (i : Nat) (acc : List W) (o4 o5 o6 : Option W), acc.length + ss.length ≤ 900 →
    ∃ i' o4' o5' o6', forL (forBody (C k) (.name 4) fb__law_back_0) [] (ss.map stW1) [some a, some b, some (.ref h.length), some (T (l.drop i)), o4, o5, o6] (h ++ [.lst acc]) = .ok .nx [some a, some b, some (.ref h.length), some (T (l.drop i')), o4', o5', o6'] (h ++ [.lst (acc ++ (metS l ss i).map backS)])
  | [], i, acc, o4, o5, o6, _ => ⟨i, o4, o5, o6, by
    show _ = RS.ok Fl.nx _ (h ++ [.lst (acc ++ [])])
    rw [List.append_nil]
    rfl⟩
  | s :: ss, i, acc, o4, o5, o6, hc => by
    rw [List.length_cons] at hc
    have hh := get_last h (.lst acc)
    have ap := fun y => app_ref (y := y) hh (by omega)
    have il := isLst_ref hh
    have hld : (l.drop i).length ≤ 1000 := by rw [List.length_drop]; omega
    have e1 : sliceW (T (l.drop i)) none (some (1 : Int)) (h ++ [.lst acc]) = .ok (T ((l.drop i).take 1)) (h ++ [.lst acc]) := by rw [slice_T _ hld, cut_to1]
    have e2 : ∀ h' : List O, sliceW (T (l.drop i)) (some (s.many : Int)) none h' = .ok (T (l.drop (i + s.many))) h' := fun h' => by rw [slice_T _ hld, cut_of, List.drop_drop]
    obtain ⟨x, q, ex, ed⟩ := dg_many (h ++ [O.lst acc]) s
    obtain ⟨od, eo, eg⟩ := Option.map_eq_some_iff.mp ed
    have e0 : subW (stW1 s) (.int 0) (h ++ [O.lst acc]) = .ok (.str x) (h ++ [O.lst acc]) := sub_its (i := 0) _ (ws := s.its) rfl (by rw [ex]; rfl)
    have ed2 : ∃ od2, dgetW (h ++ [O.lst acc]) (.sdct (mergeW [] [(.inr "add", .tup [.str "drop"]), (.inr "drop", .tup [.str "add", T ((l.drop i).take 1)]), (.inr "swap", .tup [.str "swap", T ((l.drop i).take 1)])])) (.str x) = some od2 ∧ od2.getD (stW1 s) = backS (s, (l.drop i).take s.many) := by
      cases s <;> (cases ex; exact ⟨_, rfl, rfl⟩)
    obtain ⟨od2, eo2, eg2⟩ := ed2
    obtain ⟨i', o4', o5', o6', ih⟩ := lback_for k h l hl a b ss (i + s.many) (acc ++ [backS (s, (l.drop i).take s.many)]) (some (stW1 s)) (some (.int (s.many : Nat))) (some (.sdct (mergeW [] [(.inr "add", .tup [.str "drop"]), (.inr "drop", .tup [.str "add", T ((l.drop i).take 1)]), (.inr "swap", .tup [.str "swap", T ((l.drop i).take 1)])]))) (by simp; omega)
    refine ⟨i', o4', o5', o6', ?_⟩
    have eb : forBody (C k) (.name 4) fb__law_back_0 (stW1 s) [some a, some b, some (.ref h.length), some (T (l.drop i)), o4, o5, o6] (h ++ [.lst acc]) = .ok .nx [some a, some b, some (.ref h.length), some (T (l.drop (i + s.many))), some (stW1 s), some (.int (s.many : Nat)), some (.sdct (mergeW [] [(.inr "add", .tup [.str "drop"]), (.inr "drop", .tup [.str "add", T ((l.drop i).take 1)]), (.inr "swap", .tup [.str "swap", T ((l.drop i).take 1)])]))] (h ++ [.lst (acc ++ [backS (s, (l.drop i).take s.many)])]) := by
      simp -dsimp [forBody, e0, eo, eg, dctW, e1, e2, eo2, eg2, ap, il, sz, -MP.sliceW_s, -MP.sub_tup]
    rw [List.map_cons, for_cons, eb, turnS_nx, ih, metS, List.map_cons, List.append_assoc]
    rfl
theorem backS_cls' (ps : List (Stp × List Nat)) : MP.cls (ps.map backS) = true := backS_cls ps
theorem lback_ok (k : Nat) (h : List O) (l : List Nat) (ss : List Stp) (hl : l.length ≤ 900) (hs : ss.length ≤ 900) : (C (k + 1)).cn.call "_law_back" [T l, .slst (ss.map stW1)] h = .ok (.slst ((metS l ss 0).map backS)) h := by
  rw [call__law_back, runF_of rfl]
  obtain ⟨i', o4, o5, o6, e⟩ := lback_for k h l hl (T l) (.slst (ss.map stW1)) ss 0 [] none none none (by simp; omega)
  have q : endF (evSs (C k) d__law_back.body (startL d__law_back.N.length [T l, .slst (ss.map stW1)]) h) = .ok (.ref h.length) (h ++ [O.lst ((metS l ss 0).map backS)]) := by
    simp -dsimp at e
    simp -dsimp [d__law_back, startL, sz, e]
  rw [q, show d__law_back.gc = true from rfl, gcF_t, gcR_list (Nat.le_refl _) (get_last _ _) (backS_cls _)]
theorem okW_stW (s : Stp) : okW (stW1 s) = true := by cases s <;> rfl
theorem okR_sts {h : List O} {w : W} {ss : List Stp} (e : itsH h w = some (ss.map stW1)) (hl : ss.length ≤ 300) : okR h w = true := by
  unfold okR
  rw [e]
  dsimp only
  rw [List.length_map, decide_eq_true hl, Bool.and_true, List.all_map]
  exact List.all_eq_true.mpr fun s _ => okW_stW s
/-- what the functions do -/
structure LF (X : Cc) : Prop where
  cell : ∀ (h : List O) (ns : List Int) (i : Nat), ∃ c, X.cn.call "_law_cell" [.slst (ns.map W.int), .int (i : Nat)] h = .ok (.int c) h
  bag : ∀ (h : List O) (c : Int), ∃ x y, X.cn.call "_law_bag" [.int c] h = .ok (.ref h.length) (h ++ [.lst [.int x, .int y, .int 0]]) ∧ Bx h.length 0 (h ++ [.lst [.int x, .int y, .int 0]])
  letters : ∀ (h : List O) (b n : Nat), Bx b n h → n < 10000000 → ∃ ls h', X.cn.call "_law_letters" [.ref b] h = .ok (T ls) h' ∧ ls ∈ letL ∧ Bx b (n + 1) h' ∧ Bd b h h'
  model : ∀ (b n : Nat) (ls : List Nat), ls ∈ letL → ∀ h : List O, Bx b n h → n < 100000 → ∃ (m : Mo) (h' : List O), X.cn.call "_law_model" [.ref b, T ls] h = .ok (moW m) h' ∧ okMo m = true ∧ Bx b (n + 10) h' ∧ Bd b h h'
  made : ∀ (h : List O) (m : Mo), okMo m = true → X.cn.call "_law_made" [moW m] h = .ok (.ref h.length) (h ++ [schO (sch m) (.sdct [])])
  word : ∀ (h : List O) (b n : Nat) (ls : List Nat) (m : Nat), m < 100 → okL ls → Bx b n h → n + m < 10000000 → ∃ l h', X.cn.call "_law_word" [.ref b, T ls, .int (m : Nat)] h = .ok (T l) h' ∧ l.length ≤ m ∧ (∀ c ∈ l, c ∈ ls) ∧ l.all sm = true ∧ Bx b (n + 1 + m) h' ∧ Bd b h h'
  row : ∀ (b n : Nat) (m : Mo) (l ls : List Nat), l.length ≤ 6 → l.all sm = true → okL ls → ∀ h : List O, Bx b n h → n < 10000 → ∃ (sts : List Stp) (t : List Nat) (h' : List O), X.cn.call "_law_row" [.ref b, moW m, T l, T ls] h = .ok (.slst (sts.map stW1)) h' ∧ sts.length ≤ 12 ∧ sts.all smS = true ∧ (∀ hh, Row hh m.turn.isSome l (.slst (sts.map stW1)) (sts.map stW1) sts t) ∧ Bx b (n + 40) h' ∧ Bd b h h'
  isrow : ∀ (m : Mo) (p : Nat) (h : List O), Sc m p h → ∀ (l : List Nat) (w : W), l.length ≤ 6 → l.all sm = true → okR h w = true → X.cn.call "is_row_rows" [.ref p, T l, w] h = .ok (.bl (readR h m.turn.isSome l w).isSome) h
  readY : ∀ (m : Mo) (l : List Nat) (w : W) (h : List O), l.length ≤ 900 → l.all sm = true → m.names.length ≤ 100 → okR h w = true → ∀ {ws : List W} {sts : List Stp} {t : List Nat}, Row h m.turn.isSome l w ws sts t → X.cn.call "_law_read" [moW m, T l, w] h = .ok (.tup [T t, tpI (countsR m (metS l sts 0))]) h
  readN : ∀ (m : Mo) (l : List Nat) (w : W) (h : List O), l.length ≤ 900 → l.all sm = true → m.names.length ≤ 100 → okR h w = true → readR h m.turn.isSome l w = none → X.cn.call "_law_read" [moW m, T l, w] h = .ok .non h
  writ : ∀ (m : Mo) (p : Nat) (h : List O), Sc m p h → ∀ (l : List Nat) (w : W), l.length ≤ 6 → l.all sm = true → okR h w = true → ∀ {t : List Nat}, readR h m.turn.isSome l w = some t → X.cn.call "written" [.ref p, T l, w] h = .ok (T t) h
  cnts : ∀ (m : Mo) (p : Nat) (h : List O), Sc m p h → ∀ (l : List Nat) (w : W), l.length ≤ 6 → l.all sm = true → okR h w = true → m.names.length ≤ 100 → ∀ {ws : List W} {sts : List Stp} {t : List Nat}, Row h m.turn.isSome l w ws sts t → X.cn.call "counts_of" [.ref p, T l, w] h = .ok (tpI (countsR m (metS l sts 0))) h
  back : ∀ (m : Mo) (p : Nat) (h : List O), Sc m p h → ∀ (l : List Nat) (w : W), l.length ≤ 6 → l.all sm = true → okR h w = true → ∀ {ws : List W} {sts : List Stp} {t : List Nat}, Row h m.turn.isSome l w ws sts t → X.cn.call "turned_back" [.ref p, T l, w] h = .ok (.ref h.length) (h ++ [.lst ((metS l sts 0).map backS)])
  mirr : ∀ (m : Mo) (p : Nat) (h : List O), Sc m p h → ∀ (l : List Nat) (w : W), l.length ≤ 6 → l.all sm = true → okR h w = true → ∀ {ws : List W} {sts : List Stp} {t : List Nat}, Row h m.turn.isSome l w ws sts t → its? w = some ws → X.cn.call "mirrored" [.ref p, T l, w] h = .ok (.ref h.length) (h ++ [.lst (sts.map stW1).reverse])
  lback : ∀ (h : List O) (l : List Nat) (ss : List Stp), l.length ≤ 900 → ss.length ≤ 900 → X.cn.call "_law_back" [T l, .slst (ss.map stW1)] h = .ok (.slst ((metS l ss 0).map backS)) h
theorem lfk : LF (C 11) where
  cell := cell_ok 10
  bag := bag_ok 10
  letters := letters_ok 9
  model := fun b n ls hl h => model_ok 9 b n hl h
  made := made_ok 4
  word := word_ok 9
  row := row_ok 9
  isrow := fun m p h s l w => is_row_ok 5 s l w
  readY := law_read_yes 8
  readN := law_read_no 8
  writ := fun m p h s l w hl hs hw => written_yes 3 s l w hl hs hw
  cnts := fun m p h s l w hl hs hw hn => counts_of_yes 3 s l w hl hs hw hn
  back := fun m p h s l w hl hs hw => back_yes 3 s l w hl hs hw
  mirr := fun m p h s l w hl hs hw => mirror_yes 3 s l w hl hs hw
  lback := lback_ok 10
theorem lf : LF (C 12) where
  cell := cell_ok 11
  bag := bag_ok 11
  letters := letters_ok 10
  model := fun b n ls hl h => model_ok 10 b n hl h
  made := made_ok 5
  word := word_ok 10
  row := row_ok 10
  isrow := fun m p h s l w => is_row_ok 6 s l w
  readY := law_read_yes 9
  readN := law_read_no 9
  writ := fun m p h s l w hl hs hw => written_yes 4 s l w hl hs hw
  cnts := fun m p h s l w hl hs hw hn => counts_of_yes 4 s l w hl hs hw hn
  back := fun m p h s l w hl hs hw => back_yes 4 s l w hl hs hw
  mirr := fun m p h s l w hl hs hw => mirror_yes 4 s l w hl hs hw
  lback := lback_ok 11
end L08
set_option maxRecDepth 100000
set_option maxHeartbeats 4000000
namespace L08
open PySem PySem.Spec PyProof.Rows MP
theorem ix0 : Builtin.Str.strSliceIndices none none (-1) 0 = [] := by decide +kernel
theorem ix1 : Builtin.Str.strSliceIndices none none (-1) 1 = [0] := by decide +kernel
theorem ix2 : Builtin.Str.strSliceIndices none none (-1) 2 = [1, 0] := by decide +kernel
theorem ix3 : Builtin.Str.strSliceIndices none none (-1) 3 = [2, 1, 0] := by decide +kernel
theorem ix4 : Builtin.Str.strSliceIndices none none (-1) 4 = [3, 2, 1, 0] := by decide +kernel
theorem ix5 : Builtin.Str.strSliceIndices none none (-1) 5 = [4, 3, 2, 1, 0] := by decide +kernel
theorem ix6 : Builtin.Str.strSliceIndices none none (-1) 6 = [5, 4, 3, 2, 1, 0] := by decide +kernel
theorem rev_ok (h : List O) {l : List Nat} (hl : l.length ≤ 6) : p1R (.sst none none (-1)) (.inr (T l)) h = .ok (T l.reverse) h := by
  show chk (decide ((S l).length ≤ sizeLine ∧ (-1 : Int) ≠ 0 ∧ (-1 : Int) ≠ 1)) (R.ok (W.str (stpS (S l) none none (-1))) h) = _
  rw [decide_eq_true ⟨of_decide_eq_true (sz (by rw [S_len]; omega)), by decide, by decide⟩, chk_true]
  have e : stpS (S l) none none (-1) = S l.reverse := by
    match l, hl with
    | [], _ =>
      unfold stpS
      rw [S_len, show [].length = 0 from rfl, ix0]
      simp [S]
    | [a], _ =>
      unfold stpS
      rw [S_len, show [a].length = 1 from rfl, ix1]
      simp [S]
    | [a, b], _ =>
      unfold stpS
      rw [S_len, show [a, b].length = 2 from rfl, ix2]
      simp [S]
    | [a, b, c], _ =>
      unfold stpS
      rw [S_len, show [a, b, c].length = 3 from rfl, ix3]
      simp [S]
    | [a, b, c, d], _ =>
      unfold stpS
      rw [S_len, show [a, b, c, d].length = 4 from rfl, ix4]
      simp [S]
    | [a, b, c, d, e], _ =>
      unfold stpS
      rw [S_len, show [a, b, c, d, e].length = 5 from rfl, ix5]
      simp [S]
    | [a, b, c, d, e, f], _ =>
      unfold stpS
      rw [S_len, show [a, b, c, d, e, f].length = 6 from rfl, ix6]
      simp [S]
  rw [e]
theorem Sc.app {m : Mo} {p : Nat} {h : List O} (s : Sc m p h) (o : List O) : Sc m p (h ++ o) := by
  obtain ⟨kn, e⟩ := s
  exact ⟨kn, by rw [List.getElem?_append_left (List.getElem?_eq_some_iff.mp e).1]; exact e⟩
theorem okMo_names {m : Mo} (h : okMo m = true) : m.names.length ≤ 4 := by
  unfold okMo at h
  simp only [Bool.and_eq_true, decide_eq_true_eq] at h
  omega
theorem metS_len (l : List Nat) : ∀ (sts : List Stp) (i : Nat), (metS l sts i).length = sts.length
  | [], i => rfl
  | s :: ss, i => by rw [metS, List.length_cons, List.length_cons, metS_len l ss]
theorem fold_len (m : Mo) : ∀ (ps : List (Stp × List Nat)) (cs : List Int), cs.length = m.names.length → (ps.foldl (fun cs p => addC m.names (costOf m p) cs) cs).length = m.names.length
  | [], cs, h => h
  | p :: ps, cs, h => fold_len m ps _ (addC_len _ _ _ h)
theorem counts_len (m : Mo) (ps : List (Stp × List Nat)) : (countsR m ps).length = m.names.length := fold_len m ps _ (by simp)
/-- a row that stands in a heap -/
structure RR (m : Mo) (p : Nat) (l : List Nat) (sts : List Stp) (t : List Nat) (h : List O) : Prop where
  sc : Sc (sch m) p h
  row : ∀ hh w', itsH hh w' = some (sts.map stW1) → Row hh m.turn.isSome l w' (sts.map stW1) sts t
  len : l.length ≤ 6
  sm : l.all L08.sm = true
  nm : m.names.length ≤ 4
  sl : sts.length ≤ 12
  sms : sts.all smS = true
theorem RR.app {m : Mo} {p : Nat} {l : List Nat} {sts : List Stp} {t : List Nat} {h : List O} (r : RR m p l sts t h) (o : List O) : RR m p l sts t (h ++ o) := ⟨r.sc.app o, r.row, r.len, r.sm, r.nm, r.sl, r.sms⟩
theorem RR.tl {m : Mo} {p : Nat} {l : List Nat} {sts : List Stp} {t : List Nat} {h : List O} (r : RR m p l sts t h) : t.length ≤ 6 ∧ t.all L08.sm = true := by
  have := r.row [] (.slst (sts.map stW1)) rfl
  exact ⟨this.len, this.sm⟩
/-- the row back -/
theorem RR.bk {m : Mo} {p : Nat} {l : List Nat} {sts : List Stp} {t : List Nat} {h : List O} (r : RR m p l sts t h) : (metS l sts 0).map backS = ((metS l sts 0).map bkS).map stW1 ∧ RR m p t ((metS l sts 0).map bkS) l h ∧ (metS t ((metS l sts 0).map bkS) 0).map backS = sts.map stW1 := by
  have rw0 := r.row [] (.slst (sts.map stW1)) rfl
  have o := metS_ok r.sm rw0.st rw0.rd
  have e := map_backS o
  have hm : ((metS l sts 0).map bkS).all smS = true := by
    rw [List.all_map]
    exact List.all_eq_true.mpr fun q hq => (backS_bk (o q hq)).2
  refine ⟨e, ⟨r.sc, fun hh w' hw => ?_, r.tl.1, r.tl.2, r.nm, by rw [List.length_map, metS_len]; exact r.sl, hm⟩, rw0.back2 r.len r.sm⟩
  have := rw0.back r.len r.sm (h' := hh) (w' := w') (by rw [e]; exact hw)
  rw [e] at this
  exact this
theorem RR.mir {m : Mo} {p : Nat} {l : List Nat} {sts : List Stp} {t : List Nat} {h : List O} (r : RR m p l sts t h) : RR m p l.reverse sts.reverse t.reverse h ∧ countsR m (metS l.reverse sts.reverse 0) = countsR m (metS l sts 0) := by
  have rw0 := r.row [] (.slst (sts.map stW1)) rfl
  refine ⟨⟨r.sc, fun hh w' hw => ?_, by rw [List.length_reverse]; exact r.len, by rw [List.all_reverse]; exact r.sm, r.nm, by rw [List.length_reverse]; exact r.sl, by rw [List.all_reverse]; exact r.sms⟩, mirror_counts m rw0⟩
  rw [List.map_reverse] at hw ⊢
  exact rw0.mirror hw
section
variable (X : Cc) (F : LF X) {m : Mo} {p : Nat} {l : List Nat} {sts : List Stp} {t : List Nat} {h : List O} (r : RR m p l sts t h)
include F r
theorem c_writ {w : W} (hw : itsH h w = some (sts.map stW1)) : X.cn.call "written" [.ref p, T l, w] h = .ok (T t) h := F.writ (sch m) p h r.sc l w r.len r.sm (okR_sts hw (by have := r.sl; omega)) (r.row h w hw).read
theorem c_cnts {w : W} (hw : itsH h w = some (sts.map stW1)) : X.cn.call "counts_of" [.ref p, T l, w] h = .ok (tpI (countsR m (metS l sts 0))) h := by
  have := F.cnts (sch m) p h r.sc l w r.len r.sm (okR_sts hw (by have := r.sl; omega)) (by show m.names.length ≤ 100; have := r.nm; omega) (r.row h w hw)
  rw [countsR_sch] at this
  exact this
theorem c_back {w : W} (hw : itsH h w = some (sts.map stW1)) : X.cn.call "turned_back" [.ref p, T l, w] h = .ok (.ref h.length) (h ++ [.lst ((metS l sts 0).map backS)]) := F.back (sch m) p h r.sc l w r.len r.sm (okR_sts hw (by have := r.sl; omega)) (r.row h w hw)
theorem c_mirr {w : W} (hw : its? w = some (sts.map stW1)) : X.cn.call "mirrored" [.ref p, T l, w] h = .ok (.ref h.length) (h ++ [.lst (sts.map stW1).reverse]) := F.mirr (sch m) p h r.sc l w r.len r.sm (okR_sts (itsH_of hw) (by have := r.sl; omega)) (r.row h w (itsH_of hw)) hw
theorem c_read {w : W} (hw : itsH h w = some (sts.map stW1)) : X.cn.call "_law_read" [moW m, T l, w] h = .ok (.tup [T t, tpI (countsR m (metS l sts 0))]) h := F.readY m l w h (by have := r.len; omega) r.sm (by have := r.nm; omega) (okR_sts hw (by have := r.sl; omega)) (r.row h w hw)
omit F in
theorem c_rpc : ∃ x : Str, ∀ h', reprO h' (.inr (tpI (countsR m (metS l sts 0)))) = .ok (.str x) h' := by
  have hc : ∀ c ∈ countsR m (metS l sts 0), 0 ≤ c ∧ c < 100 := fun c hc => by
    have := counts_small m (metS l sts 0) c hc
    rw [metS_len] at this
    have := r.sl
    omega
  have hl : (countsR m (metS l sts 0)).length ≤ 100 := by rw [counts_len]; have := r.nm; omega
  have key : ∀ h', ∃ x : Str, reprO h' (.inr (tpI (countsR m (metS l sts 0)))) = .ok (.str x) h' := fun h' => rp_counts h' _ hc hl
  obtain ⟨x, ex⟩ := key []
  refine ⟨(PyData.tuple ((countsR m (metS l sts 0)).map .int)).shown, fun h' => ?_⟩
  obtain ⟨y, ey⟩ := key h'
  have ed := datO_tpI h' (countsR m (metS l sts 0))
  unfold reprO at ey ⊢
  rw [ed] at ey ⊢
  dsimp only at ey ⊢
  cases hb : ((PyData.tuple ((countsR m (metS l sts 0)).map .int)).showable && decide ((PyData.tuple ((countsR m (metS l sts 0)).map .int)).shown.length ≤ sizeLine)) with
  | true => rfl
  | false => rw [hb] at ey; cases ey
end
end L08
set_option maxRecDepth 100000
set_option maxHeartbeats 4000000
namespace L08
open PySem PySem.Spec PyProof.Rows MP
abbrev qSt (p : Nat) (m : Mo) (l : List Nat) (sts : List Stp) (o4 o5 o6 o7 o8 : Option W) : Lo := [some (.ref p), some (moW m), some (T l), some (.slst (sts.map stW1)), o4, o5, o6, o7, o8, none, none]
section
variable (X : Cc) (F : LF X) {m : Mo} {p : Nat} {l : List Nat} {sts : List Stp} {t : List Nat} {h : List O} (r : RR m p l sts t h)
include F r
theorem qB1_ok (o4 o5 o6 o7 o8 : Option W) : evS X qB1 (qSt p m l sts o4 o5 o6 o7 o8) h = .ok .nx (qSt p m l sts (some (T t)) (some (tpI (countsR m (metS l sts 0)))) o6 o7 o8) h := by
  have e := c_read X F r (w := .slst (sts.map stW1)) rfl
  simp -dsimp [e, seqW]
theorem qB2_ok (o6 o7 o8 : Option W) : evS X qB2 (qSt p m l sts (some (T t)) (some (tpI (countsR m (metS l sts 0)))) o6 o7 o8) h = .ok .nx (qSt p m l sts (some (T t)) (some (tpI (countsR m (metS l sts 0)))) o6 o7 o8) h := by
  have e1 := c_writ X F r (w := .slst (sts.map stW1)) rfl
  have e2 := c_cnts X F r (w := .tup (sts.map stW1)) rfl
  obtain ⟨x, ex⟩ := c_rpc r
  simp -dsimp [e1, e2, ex]
theorem qB3_ok (o4 o5 o6 o7 o8 : Option W) : evS X qB3 (qSt p m l sts o4 o5 o6 o7 o8) h = .ok .nx (qSt p m l sts o4 o5 (some (.ref h.length)) o7 o8) (h ++ [.lst (((metS l sts 0).map bkS).map stW1)]) := by
  have e := c_back X F r (w := .slst (sts.map stW1)) rfl
  rw [r.bk.1] at e
  simp -dsimp [e, -List.map_map]
theorem qB4_ok (n : Nat) (e6 : h[n]? = some (.lst (((metS l sts 0).map bkS).map stW1))) (o5 o7 o8 : Option W) : evS X qB4 (qSt p m l sts (some (T t)) o5 (some (.ref n)) o7 o8) h = .ok .nx (qSt p m l sts (some (T t)) o5 (some (.ref n)) o7 o8) (h ++ [.lst (sts.map stW1)]) := by
  obtain ⟨b1, b2, b3⟩ := r.bk
  have e1 := F.lback h l sts (by have := r.len; omega) (by have := r.sl; omega)
  rw [b1] at e1
  have e2 := c_back X F b2 (w := .ref n) (itsH_ref e6)
  rw [b3] at e2
  have p1 := rp_rf b2.sms (by have := b2.sl; omega) h e6
  have p2 := rp_sl b2.sms (by have := b2.sl; omega) h
  have q := eq_rf r.sms (by have := r.sl; omega) (h ++ [.lst (sts.map stW1)]) (n := h.length) (get_last _ _)
  simp -dsimp [e1, e2, p1, p2, q, -List.map_map]
theorem qB5_ok (n : Nat) (e6 : h[n]? = some (.lst (((metS l sts 0).map bkS).map stW1))) (o5 o7 o8 : Option W) : evS X qB5 (qSt p m l sts (some (T t)) o5 (some (.ref n)) o7 o8) h = .ok .nx (qSt p m l sts (some (T t)) o5 (some (.ref n)) o7 o8) h := by
  obtain ⟨b1, b2, b3⟩ := r.bk
  have e2 := c_writ X F b2 (w := .ref n) (itsH_ref e6)
  simp -dsimp [e2]
theorem qB6_ok (n : Nat) (e6 : h[n]? = some (.lst (((metS l sts 0).map bkS).map stW1))) (o5 o7 o8 : Option W) : evS X qB6 (qSt p m l sts (some (T t)) o5 (some (.ref n)) o7 o8) h = .ok .nx (qSt p m l sts (some (T t)) o5 (some (.ref n)) o7 o8) h := by
  obtain ⟨b1, b2, b3⟩ := r.bk
  have e2 := c_cnts X F b2 (w := .ref n) (itsH_ref e6)
  have e3 := c_read X F b2 (w := .ref n) (itsH_ref e6)
  have q := fun a b => eqO_tpI h a b
  simp -dsimp [e2, e3, L2.atI, L2.ixN, q]
theorem qB7_ok (o4 o5 o6 o7 o8 : Option W) : evS X qB7 (qSt p m l sts o4 o5 o6 o7 o8) h = .ok .nx (qSt p m l sts o4 o5 o6 (some (.ref h.length)) o8) (h ++ [.lst (sts.map stW1).reverse]) := by
  have e := c_mirr X F r (w := .slst (sts.map stW1)) rfl
  simp -dsimp [e]
theorem qB8_ok (n : Nat) (e7 : h[n]? = some (.lst (sts.map stW1).reverse)) (o5 o6 o8 : Option W) : evS X qB8 (qSt p m l sts (some (T t)) o5 o6 (some (.ref n)) o8) h = .ok .nx (qSt p m l sts (some (T t)) o5 o6 (some (.ref n)) o8) h := by
  obtain ⟨b1, b2⟩ := r.mir
  have e7' : h[n]? = some (.lst (sts.reverse.map stW1)) := by rw [List.map_reverse]; exact e7
  have p1 := rp_rf b1.sms (by have := b1.sl; omega) h e7'
  have p2 := rp_in b1.sms (by have := b1.sl; omega) h
  rw [List.map_reverse] at p2
  have e2 := c_writ X F b1 (w := .ref n) (itsH_ref e7')
  have v1 := rev_ok h r.len
  have v2 := rev_ok h r.tl.1
  have lq : ∀ xs : List W, lsqO h (.inr (.slst xs)) = .ok xs h := fun _ => rfl
  simp -dsimp [e2, p1, p2, v1, v2, lq, -List.map_reverse]
theorem qB9_ok (n : Nat) (e7 : h[n]? = some (.lst (sts.map stW1).reverse)) (o4 o6 o8 : Option W) : evS X qB9 (qSt p m l sts o4 (some (tpI (countsR m (metS l sts 0)))) o6 (some (.ref n)) o8) h = .ok .nx (qSt p m l sts o4 (some (tpI (countsR m (metS l sts 0)))) o6 (some (.ref n)) o8) h := by
  obtain ⟨b1, b2⟩ := r.mir
  have e7' : h[n]? = some (.lst (sts.reverse.map stW1)) := by rw [List.map_reverse]; exact e7
  have e2 := c_cnts X F b1 (w := .ref n) (itsH_ref e7')
  rw [b2] at e2
  have v1 := rev_ok h r.len
  have q := fun a b => eqO_tpI h a b
  simp -dsimp [e2, v1, q]
omit F r in
theorem qB10_ok (n : Nat) (ws : List W) (hw : ws.length ≤ 100) (e6 : h[n]? = some (.lst ws)) (o4 o5 o7 o8 : Option W) : evS X qB10 (qSt p m l sts o4 o5 (some (.ref n)) o7 o8) h = .ok .nx (qSt p m l sts o4 o5 (some (.ref n)) o7 o8) (h.set n (.lst (ws ++ [.str "late1"]))) := by
  have ap := app_ref (y := .str "late1") e6 (by omega)
  have il := isLst_ref e6
  simp -dsimp [ap, il]
omit F r in
theorem qB11_ok (n : Nat) (ws : List W) (hw : ws.length ≤ 100) (e7 : h[n]? = some (.lst ws)) (o4 o5 o6 o8 : Option W) : evS X qB11 (qSt p m l sts o4 o5 o6 (some (.ref n)) o8) h = .ok .nx (qSt p m l sts o4 o5 o6 (some (.ref n)) o8) (h.set n (.lst (ws ++ [.str "late2"]))) := by
  have ap := app_ref (y := .str "late2") e7 (by omega)
  have il := isLst_ref e7
  simp -dsimp [ap, il]
end
end L08
set_option maxRecDepth 100000
set_option maxHeartbeats 4000000
namespace L08
open PySem PySem.Spec PyProof.Rows MP
abbrev stL (s : Stp) : W := .slst s.its
theorem stepOf_stL (s : Stp) : stepOf (stL s) = stepOf (stW1 s) := stepOf_slst s.its (w := stW1 s) rfl
/-- the same row in another form -/
structure RV (sts : List Stp) (v : W) (vs : List W) : Prop where
  its : its? v = some vs
  st : vs.map stepOf = sts.map some
  ok : vs.all okW = true
  len : vs.length = sts.length
theorem okW_stL (s : Stp) : okW (stL s) = true := by cases s <;> rfl
theorem rv_L {sts : List Stp} (h : sts.all smS = true) : (sts.map stL).map stepOf = sts.map some ∧ (sts.map stL).all okW = true := by
  constructor
  · rw [List.map_map]
    exact List.map_congr_left fun s hs => (stepOf_stL s).trans (stepOf_stW (List.all_eq_true.mp h s hs))
  · rw [List.all_map]
    exact List.all_eq_true.mpr fun s _ => okW_stL s
theorem rv_W {sts : List Stp} (h : sts.all smS = true) : (sts.map stW1).map stepOf = sts.map some ∧ (sts.map stW1).all okW = true := by
  constructor
  · exact st_stW h
  · rw [List.all_map]
    exact List.all_eq_true.mpr fun s _ => okW_stW s
theorem RV.okR {sts : List Stp} {v : W} {vs : List W} (q : RV sts v vs) (hl : sts.length ≤ 300) (h : List O) : okR h v = true := by
  unfold L08.okR
  rw [itsH_of q.its]
  dsimp only
  rw [q.ok, q.len, decide_eq_true hl]; rfl
theorem RV.row {m : Mo} {p : Nat} {l : List Nat} {sts : List Stp} {t : List Nat} {h : List O} {v : W} {vs : List W} (q : RV sts v vs) (r : RR m p l sts t h) (hh : List O) : Row hh m.turn.isSome l v vs sts t := by
  have r0 := r.row [] (.slst (sts.map stW1)) rfl
  exact ⟨itsH_of q.its, q.st, r0.rd, r0.len, r0.sm⟩
section
variable (X : Cc) (F : LF X) {m : Mo} {p : Nat} {l : List Nat} {sts : List Stp} {t : List Nat} {h : List O} (r : RR m p l sts t h)
include F r
theorem qR_ok (v : W) (vs : List W) (q : RV sts v vs) (o6 o7 o8 : Option W) : ∃ o, forBody X (.name 8) fb__law_right_0 v (qSt p m l sts (some (T t)) (some (tpI (countsR m (metS l sts 0)))) o6 o7 o8) h = .ok .nx (qSt p m l sts (some (T t)) (some (tpI (countsR m (metS l sts 0)))) o6 o7 (some v)) (h ++ o) := by
  obtain ⟨b1, b2, b3⟩ := r.bk
  have sl := r.sl
  have e1 := F.back (sch m) p h r.sc l v r.len r.sm (q.okR (by omega) h) (q.row r h)
  rw [b1] at e1
  have e2 := F.lback (h ++ [.lst (((metS l sts 0).map bkS).map stW1)]) l sts (by have := r.len; omega) (by omega)
  rw [b1] at e2
  have p1 := rp_rf b2.sms (by have := b2.sl; omega) (h ++ [.lst (((metS l sts 0).map bkS).map stW1)]) (n := h.length) (get_last _ _)
  have p2 := rp_sl b2.sms (by have := b2.sl; omega) (h ++ [.lst (((metS l sts 0).map bkS).map stW1)])
  have r1 := r.app [.lst (((metS l sts 0).map bkS).map stW1)]
  have e3 := F.mirr (sch m) p _ r1.sc l v r.len r.sm (q.okR (by omega) _) (q.row r _) q.its
  have r2 := r1.app [.lst (sts.map stW1).reverse]
  obtain ⟨c1, c2⟩ := r.mir
  have p3 := rp_rf c1.sms (by have := c1.sl; omega) (h ++ [.lst (((metS l sts 0).map bkS).map stW1)] ++ [.lst (sts.map stW1).reverse]) (n := (h ++ [O.lst (((metS l sts 0).map bkS).map stW1)]).length) (by rw [List.map_reverse]; exact get_last _ _)
  have p4 := rp_in c1.sms (by have := c1.sl; omega) (h ++ [.lst (((metS l sts 0).map bkS).map stW1)] ++ [.lst (sts.map stW1).reverse])
  rw [List.map_reverse] at p4
  have e4 := F.writ (sch m) p _ r2.sc l v r.len r.sm (q.okR (by omega) _) (q.row r _).read
  have e5 := F.cnts (sch m) p _ r2.sc l v r.len r.sm (q.okR (by omega) _) (by show m.names.length ≤ 100; have := r.nm; omega) (q.row r _)
  rw [countsR_sch] at e5
  have lq : ∀ (xs : List W) (h : List O), lsqO h (.inr (.slst xs)) = .ok xs h := fun _ _ => rfl
  have qe := fun h a b => eqO_tpI h a b
  refine ⟨[.lst (((metS l sts 0).map bkS).map stW1)] ++ [.lst (sts.map stW1).reverse], ?_⟩
  rw [← List.append_assoc]
  have a1 : evS X qR1 (qSt p m l sts (some (T t)) (some (tpI (countsR m (metS l sts 0)))) o6 o7 (some v)) h = .ok .nx (qSt p m l sts (some (T t)) (some (tpI (countsR m (metS l sts 0)))) o6 o7 (some v)) (h ++ [.lst (((metS l sts 0).map bkS).map stW1)]) := by
    simp -dsimp [e1, e2, p1, p2, -List.map_map]
  have a2 : evS X qR2 (qSt p m l sts (some (T t)) (some (tpI (countsR m (metS l sts 0)))) o6 o7 (some v)) (h ++ [.lst (((metS l sts 0).map bkS).map stW1)]) = .ok .nx (qSt p m l sts (some (T t)) (some (tpI (countsR m (metS l sts 0)))) o6 o7 (some v)) (h ++ [.lst (((metS l sts 0).map bkS).map stW1)] ++ [.lst (sts.map stW1).reverse]) := by
    generalize h ++ [.lst (((metS l sts 0).map bkS).map stW1)] = h1 at *
    simp -dsimp [e3, p3, p4, e4, lq, -List.map_reverse]
  have a3 : evS X qR3 (qSt p m l sts (some (T t)) (some (tpI (countsR m (metS l sts 0)))) o6 o7 (some v)) (h ++ [.lst (((metS l sts 0).map bkS).map stW1)] ++ [.lst (sts.map stW1).reverse]) = .ok .nx (qSt p m l sts (some (T t)) (some (tpI (countsR m (metS l sts 0)))) o6 o7 (some v)) (h ++ [.lst (((metS l sts 0).map bkS).map stW1)] ++ [.lst (sts.map stW1).reverse]) := by
    generalize h ++ [.lst (((metS l sts 0).map bkS).map stW1)] ++ [.lst (sts.map stW1).reverse] = h2 at *
    simp -dsimp [e5, qe]
  show evSs X fb__law_right_0 (qSt p m l sts (some (T t)) (some (tpI (countsR m (metS l sts 0)))) o6 o7 (some v)) h = _
  rw [qR_body, ss_cons, a1, seqS_nx, ss_cons, a2, seqS_nx, ss_one, a3]
theorem qB12_ok (o6 o7 o8 : Option W) : ∃ o o8', evS X qB12 (qSt p m l sts (some (T t)) (some (tpI (countsR m (metS l sts 0)))) o6 o7 o8) h = .ok .nx (qSt p m l sts (some (T t)) (some (tpI (countsR m (metS l sts 0)))) o6 o7 o8') (h ++ o) := by
  have sl := r.sl
  have lc : ∀ o8 : Option W, lcLoop (lcBody X.cn (.frz (.blt "list" (.cons (.var 10) .nil))) (.name 10) .none (qSt p m l sts (some (T t)) (some (tpI (countsR m (metS l sts 0)))) o6 o7 o8)) [] 0 (sts.map stW1) h = .ok (sts.map stL) h := fun o8 => by
    rw [lc_mapA (g := stL) (fun s hs => by simp -dsimp [lcBody]) (by omega)]
  have src : evi X.cn (.val (.lst (.cons (.frz (.lcomp (.frz (.blt "list" (.cons (.var 10) .nil))) (.name 10) (.val (.var 3)) .none [9, 10])) (.cons (.blt "tuple" (.cons (.var 3) .nil)) (.cons (.blt "tuple" (.cons (.lcomp (.frz (.blt "list" (.cons (.var 10) .nil))) (.name 10) (.val (.var 3)) .none [9, 10]) .nil)) .nil))))) (qSt p m l sts (some (T t)) (some (tpI (countsR m (metS l sts 0)))) o6 o7 o8) h = .ok ([.slst (sts.map stL), .tup (sts.map stW1), .tup (sts.map stL)], []) h := by
    have eso : ∀ xs : List W, seqO true h (.inr (.slst xs)) = .ok (xs, []) h := fun _ => rfl
    have lc' := lc o8
    simp -dsimp [sz, wipeL, lc', eso]
  obtain ⟨x1, x2⟩ := rv_L r.sms
  obtain ⟨y1, y2⟩ := rv_W r.sms
  obtain ⟨oa, ea⟩ := qR_ok X F r (.slst (sts.map stL)) _ ⟨rfl, x1, x2, by rw [List.length_map]⟩ o6 o7 o8
  obtain ⟨ob, eb⟩ := qR_ok X F (r.app oa) (.tup (sts.map stW1)) _ ⟨rfl, y1, y2, by rw [List.length_map]⟩ o6 o7 (some (.slst (sts.map stL)))
  obtain ⟨oc, ec⟩ := qR_ok X F ((r.app oa).app ob) (.tup (sts.map stL)) _ ⟨rfl, x1, x2, by rw [List.length_map]⟩ o6 o7 (some (.tup (sts.map stW1)))
  refine ⟨oa ++ ob ++ oc, some (.tup (sts.map stL)), ?_⟩
  show evS X (.for (.name 8) _ fb__law_right_0) _ h = _
  rw [s_for_, src, liftE_ok, for_cons, ea, turnS_nx, for_cons, eb, turnS_nx, for_cons, ec, turnS_nx, for_nil]
  rw [List.append_assoc, List.append_assoc, List.append_assoc]
theorem right_g : runF X d__law_right [.ref p, moW m, T l, .slst (sts.map stW1)] h = .ok (.bl true) h := by
  rw [runF_of rfl, qB_body]
  have b2 := r.bk.2.1
  let a : O := .lst (((metS l sts 0).map bkS).map stW1)
  let bo : O := .lst (sts.map stW1)
  let c : O := .lst (sts.map stW1).reverse
  have r1 : RR m p l sts t (h ++ [a]) := r.app [a]
  have r2 : RR m p l sts t (h ++ [a] ++ [bo]) := r1.app [bo]
  have r3 : RR m p l sts t (h ++ [a] ++ [bo] ++ [c]) := r2.app [c]
  have g1 : (h ++ [a])[h.length]? = some a := get_last _ _
  have g2 : (h ++ [a] ++ [bo])[h.length]? = some a := by rw [List.getElem?_append_left (by simp)]; exact g1
  have g3 : (h ++ [a] ++ [bo] ++ [c])[h.length]? = some a := by rw [List.getElem?_append_left (by simp)]; exact g2
  have g4 : (h ++ [a] ++ [bo] ++ [c])[(h ++ [a] ++ [bo]).length]? = some c := get_last _ _
  have la : (((metS l sts 0).map bkS).map stW1).length ≤ 100 := by rw [List.length_map]; have := b2.sl; omega
  have lc : ((sts.map stW1).reverse).length ≤ 100 := by rw [List.length_reverse, List.length_map]; have := r.sl; omega
  have hx : ∀ x y : O, ((h ++ [a] ++ [bo] ++ [c]).set h.length x).set (h ++ [a] ++ [bo]).length y = h ++ ([x] ++ [bo] ++ [y]) := fun x y => by simp
  have g5 : ∀ x, ((h ++ [a] ++ [bo] ++ [c]).set h.length x)[(h ++ [a] ++ [bo]).length]? = some c := fun x => by
    rw [List.getElem?_set_ne (by simp)]; exact g4
  have a10 := qB10_ok X (sts := sts) (m := m) (p := p) (l := l) h.length _ la g3 (some (T t)) (some (tpI (countsR m (metS l sts 0)))) (some (.ref (h ++ [a] ++ [bo]).length)) none
  have a11 := qB11_ok X (sts := sts) (m := m) (p := p) (l := l) (h ++ [a] ++ [bo]).length _ lc (g5 (.lst (((metS l sts 0).map bkS).map stW1 ++ [.str "late1"]))) (some (T t)) (some (tpI (countsR m (metS l sts 0)))) (some (.ref h.length)) none
  rw [hx] at a11
  obtain ⟨o, o8', a12⟩ := qB12_ok X F (r.app ([O.lst (((metS l sts 0).map bkS).map stW1 ++ [.str "late1"])] ++ [bo] ++ [O.lst ((sts.map stW1).reverse ++ [.str "late2"])])) (some (.ref h.length)) (some (.ref (h ++ [a] ++ [bo]).length)) none
  show gcF true h (endF (evSs X _ (qSt p m l sts none none none none none) h)) = _
  rw [ss_cons, qB1_ok X F r, seqS_nx, ss_cons, qB2_ok X F r, seqS_nx, ss_cons, qB3_ok X F r, seqS_nx, ss_cons, qB4_ok X F r1 h.length g1, seqS_nx, ss_cons, qB5_ok X F r2 h.length g2, seqS_nx, ss_cons, qB6_ok X F r2 h.length g2, seqS_nx, ss_cons, qB7_ok X F r2, seqS_nx, ss_cons, qB8_ok X F r3 (h ++ [a] ++ [bo]).length g4, seqS_nx, ss_cons, qB9_ok X F r3 (h ++ [a] ++ [bo]).length g4, seqS_nx, ss_cons, a10, seqS_nx, ss_cons, a11, seqS_nx, ss_cons, a12, seqS_nx, ss_one]
  show gcF true h (.ok (.bl true) _) = _
  rw [gcF_t, List.append_assoc, gcR_cl rfl]
end
end L08
set_option maxRecDepth 100000
set_option maxHeartbeats 4000000
namespace L08
open PySem PySem.Spec PyProof.Rows MP
abbrev lB1 : Ms := (.for (.name 1) (.range (.cons (.blt "max" (.cons (.int 2) (.cons (.blt "min" (.cons (.int 6) (.cons (.blt "len" (.cons (.var 0) .nil)) .nil))) .nil))) .nil)) (.cons (.asg (.name 2) (.call "_law_bag" (.cons (.call "_law_cell" (.cons (.var 0) (.cons (.var 1) .nil))) .nil))) (.cons (.asg (.name 3) (.call "_law_letters" (.cons (.var 2) .nil))) (.cons (.asg (.name 4) (.call "_law_model" (.cons (.var 2) (.cons (.var 3) .nil)))) (.cons (.par 5 6 (.call "_law_made" (.cons (.var 4) .nil)) (.call "_law_model" (.cons (.var 2) (.cons (.var 3) .nil)))) (.cons (.asg (.name 7) (.call "_law_made" (.cons (.var 6) .nil))) (.cons (.for (.name 8) (.range (.cons (.int 4) .nil)) (.cons (.asg (.name 9) (.call "_law_word" (.cons (.var 2) (.cons (.var 3) (.cons (.int 6) .nil))))) (.cons (.asg (.name 10) (.call "_law_row" (.cons (.var 2) (.cons (.var 4) (.cons (.var 9) (.cons (.bin .Add (.var 3) (.str "q")) .nil)))))) (.cons (.ife (.not (.call "_law_right" (.cons (.var 5) (.cons (.var 4) (.cons (.var 9) (.cons (.var 10) .nil)))))) (.cons (.ret (.bl false)) .nil) .nil) (.cons (.asg (.name 11) (.call "_law_read" (.cons (.var 6) (.cons (.var 9) (.cons (.var 10) .nil))))) (.cons (.ife (.cmp .NotEq (.call "is_row_rows" (.cons (.var 7) (.cons (.var 9) (.cons (.var 10) .nil)))) (.cmp .IsNot (.var 11) .non)) (.cons (.ret (.bl false)) .nil) .nil) (.cons (.ife (.boolop .And (.cons (.cmp .IsNot (.var 11) .non) (.cons (.cmp .NotEq (.call "counts_of" (.cons (.var 7) (.cons (.var 9) (.cons (.var 10) .nil)))) (.sub (.var 11) (.int 1))) .nil))) (.cons (.ret (.bl false)) .nil) .nil) .nil))))))) .nil)))))))
abbrev lB2 : Ms := (.ret (.bl true))
theorem lB_body : d_law.body = (.cons lB1 (.cons lB2 .nil)) := rfl
abbrev l0B1 : Ms := (.asg (.name 2) (.call "_law_bag" (.cons (.call "_law_cell" (.cons (.var 0) (.cons (.var 1) .nil))) .nil)))
abbrev l0B2 : Ms := (.asg (.name 3) (.call "_law_letters" (.cons (.var 2) .nil)))
abbrev l0B3 : Ms := (.asg (.name 4) (.call "_law_model" (.cons (.var 2) (.cons (.var 3) .nil))))
abbrev l0B4 : Ms := (.par 5 6 (.call "_law_made" (.cons (.var 4) .nil)) (.call "_law_model" (.cons (.var 2) (.cons (.var 3) .nil))))
abbrev l0B5 : Ms := (.asg (.name 7) (.call "_law_made" (.cons (.var 6) .nil)))
abbrev l0B6 : Ms := (.for (.name 8) (.range (.cons (.int 4) .nil)) (.cons (.asg (.name 9) (.call "_law_word" (.cons (.var 2) (.cons (.var 3) (.cons (.int 6) .nil))))) (.cons (.asg (.name 10) (.call "_law_row" (.cons (.var 2) (.cons (.var 4) (.cons (.var 9) (.cons (.bin .Add (.var 3) (.str "q")) .nil)))))) (.cons (.ife (.not (.call "_law_right" (.cons (.var 5) (.cons (.var 4) (.cons (.var 9) (.cons (.var 10) .nil)))))) (.cons (.ret (.bl false)) .nil) .nil) (.cons (.asg (.name 11) (.call "_law_read" (.cons (.var 6) (.cons (.var 9) (.cons (.var 10) .nil))))) (.cons (.ife (.cmp .NotEq (.call "is_row_rows" (.cons (.var 7) (.cons (.var 9) (.cons (.var 10) .nil)))) (.cmp .IsNot (.var 11) .non)) (.cons (.ret (.bl false)) .nil) .nil) (.cons (.ife (.boolop .And (.cons (.cmp .IsNot (.var 11) .non) (.cons (.cmp .NotEq (.call "counts_of" (.cons (.var 7) (.cons (.var 9) (.cons (.var 10) .nil)))) (.sub (.var 11) (.int 1))) .nil))) (.cons (.ret (.bl false)) .nil) .nil) .nil)))))))
theorem l0B_body : fb_law_0 = (.cons l0B1 (.cons l0B2 (.cons l0B3 (.cons l0B4 (.cons l0B5 (.cons l0B6 .nil)))))) := rfl
abbrev l1B1 : Ms := (.asg (.name 9) (.call "_law_word" (.cons (.var 2) (.cons (.var 3) (.cons (.int 6) .nil)))))
abbrev l1B2 : Ms := (.asg (.name 10) (.call "_law_row" (.cons (.var 2) (.cons (.var 4) (.cons (.var 9) (.cons (.bin .Add (.var 3) (.str "q")) .nil))))))
abbrev l1B3 : Ms := (.ife (.not (.call "_law_right" (.cons (.var 5) (.cons (.var 4) (.cons (.var 9) (.cons (.var 10) .nil)))))) (.cons (.ret (.bl false)) .nil) .nil)
abbrev l1B4 : Ms := (.asg (.name 11) (.call "_law_read" (.cons (.var 6) (.cons (.var 9) (.cons (.var 10) .nil)))))
abbrev l1B5 : Ms := (.ife (.cmp .NotEq (.call "is_row_rows" (.cons (.var 7) (.cons (.var 9) (.cons (.var 10) .nil)))) (.cmp .IsNot (.var 11) .non)) (.cons (.ret (.bl false)) .nil) .nil)
abbrev l1B6 : Ms := (.ife (.boolop .And (.cons (.cmp .IsNot (.var 11) .non) (.cons (.cmp .NotEq (.call "counts_of" (.cons (.var 7) (.cons (.var 9) (.cons (.var 10) .nil)))) (.sub (.var 11) (.int 1))) .nil))) (.cons (.ret (.bl false)) .nil) .nil)
theorem l1B_body : fb_law_1 = (.cons l1B1 (.cons l1B2 (.cons l1B3 (.cons l1B4 (.cons l1B5 (.cons l1B6 .nil)))))) := rfl
theorem Sc.bd {m : Mo} {p b : Nat} {h h' : List O} (s : Sc m p h) (d : Bd b h h') (hp : p ≠ b) : Sc m p h' := by
  obtain ⟨kn, e⟩ := s
  exact ⟨kn, by rw [d.2 p hp]; exact e⟩
theorem let_ok {ls : List Nat} (h : ls ∈ letL) : okL ls ∧ ls.length ≤ 6 := by
  have : (letL.all fun l => decide (0 < l.length ∧ l.length ≤ 6) && l.all L08.sm) = true := by decide +kernel
  have := List.all_eq_true.mp this ls h
  simp only [Bool.and_eq_true, decide_eq_true_eq] at this
  exact ⟨⟨this.1.1, by omega, this.2⟩, this.1.2⟩
theorem rng_mem {n : Nat} {pre suf : List W} {w : W} (h : [] ++ rngL 0 n = pre ++ w :: suf) : pre.length < n ∧ ∃ j : Nat, w = .int (0 + (j : Int)) := by
  have hl := congrArg List.length h
  rw [List.nil_append, List.length_append, List.length_cons] at hl
  have e1 : (rngL 0 n).length = n := by simp [rngL]
  rw [e1] at hl
  refine ⟨by omega, ?_⟩
  have hm : w ∈ rngL 0 n := by
    rw [List.nil_append] at h
    rw [h]
    simp
  obtain ⟨j, _, e⟩ := List.mem_map.mp hm
  exact ⟨j, e.symm⟩
structure WI (m m2 : Mo) (p p2 b n : Nat) (ls : List Nat) (h : List O) : Prop where
  sc : Sc (sch m) p h
  sc2 : Sc (sch m2) p2 h
  bx : Bx b n h
  ne : p ≠ b
  ne2 : p2 ≠ b
  let' : ls ∈ letL
  mo : okMo m = true
  mo2 : okMo m2 = true
theorem WI.draw {m m2 : Mo} {p p2 b n n' : Nat} {ls : List Nat} {h h' : List O} (i : WI m m2 p p2 b n ls h) (q : Bx b n' h') (d : Bd b h h') : WI m m2 p p2 b n' ls h' := ⟨i.sc.bd d i.ne, i.sc2.bd d i.ne2, q, i.ne, i.ne2, i.let', i.mo, i.mo2⟩
abbrev gSt (s i : Option W) (b : Nat) (ls : List Nat) (m m2 : Mo) (p p2 : Nat) (o8 o9 o10 o11 : Option W) : Lo := [s, i, some (.ref b), some (T ls), some (moW m), some (.ref p), some (moW m2), some (.ref p2), o8, o9, o10, o11]
section
variable (X : Cc) (F : LF X) (R : ∀ (m : Mo) (p : Nat) (l : List Nat) (sts : List Stp) (t : List Nat) (h : List O), RR m p l sts t h → X.cn.call "_law_right" [.ref p, moW m, T l, .slst (sts.map stW1)] h = .ok (.bl true) h)
variable (s i : Option W) (b : Nat) (ls : List Nat) (m m2 : Mo) (p p2 : Nat)
include F R
theorem lap_ok (n : Nat) (h : List O) (w : WI m m2 p p2 b n ls h) (hn : n < 8000) (o8 o9 o10 o11 : Option W) : ∃ (h' : List O) (o9' o10' o11' : Option W), evSs X fb_law_1 (gSt s i b ls m m2 p p2 o8 o9 o10 o11) h = .ok .nx (gSt s i b ls m m2 p p2 o8 o9' o10' o11') h' ∧ WI m m2 p p2 b (n + 47) ls h' := by
  obtain ⟨hL, h6⟩ := let_ok w.let'
  have hq : L08.sm 113 = true := by decide +kernel
  have hL2 : okL (ls ++ [113]) := ⟨by rw [List.length_append, List.length_singleton]; omega, by rw [List.length_append, List.length_singleton]; omega, by rw [List.all_append, hL.2.2, List.all_cons, hq]; rfl⟩
  obtain ⟨l, h1, e1, l6, _, lsm, b1, d1⟩ := F.word h b n ls 6 (by omega) hL w.bx (by omega)
  have w1 := w.draw b1 d1
  obtain ⟨sts, t, h2, e2, l12, hs, r, b2, d2⟩ := F.row b (n + 1 + 6) m l (ls ++ [113]) l6 lsm hL2 h1 b1 (by omega)
  have w2 := w1.draw b2 d2
  have n4 := okMo_names w.mo
  have n4' := okMo_names w.mo2
  have rr : RR m p l sts t h2 := ⟨w2.sc, fun hh w' hw => by
    have r0 := r hh
    exact ⟨hw, r0.st, r0.rd, r0.len, r0.sm⟩, l6, lsm, n4, l12, hs⟩
  have e3 := R m p l sts t h2 rr
  have ow : okR h2 (.slst (sts.map stW1)) = true := okR_sts rfl (by omega)
  have ad := add_T h1 (a := ls) (b := [113]) (by rw [List.length_singleton]; omega)
  have es : W.str "q" = T [113] := rfl
  have a1 : evS X l1B1 (gSt s i b ls m m2 p p2 o8 o9 o10 o11) h = .ok .nx (gSt s i b ls m m2 p p2 o8 (some (T l)) o10 o11) h1 := by
    simp -dsimp at e1
    simp -dsimp [e1]
  have a2 : evS X l1B2 (gSt s i b ls m m2 p p2 o8 (some (T l)) o10 o11) h1 = .ok .nx (gSt s i b ls m m2 p p2 o8 (some (T l)) (some (.slst (sts.map stW1))) o11) h2 := by
    simp -dsimp [ad, es, e2, -MP.b_addS]
  have a3 : evS X l1B3 (gSt s i b ls m m2 p p2 o8 (some (T l)) (some (.slst (sts.map stW1))) o11) h2 = .ok .nx (gSt s i b ls m m2 p p2 o8 (some (T l)) (some (.slst (sts.map stW1))) o11) h2 := by
    simp -dsimp [e3]
  have e5 := F.isrow (sch m2) p2 h2 w2.sc2 l (.slst (sts.map stW1)) l6 lsm ow
  have et : (sch m2).turn = m2.turn := rfl
  rw [et] at e5
  rw [l1B_body, ss_cons, a1, seqS_nx, ss_cons, a2, seqS_nx, ss_cons, a3, seqS_nx]
  have ebb : ∀ c : Bool, eqO h2 (.inr (.bl c)) (.inr (.bl c)) = some true := fun c => by cases c <;> rfl
  cases er : readR h2 m2.turn.isSome l (.slst (sts.map stW1)) with
  | none =>
    have e4 := F.readN m2 l (.slst (sts.map stW1)) h2 (by omega) lsm (by omega) ow er
    rw [er] at e5
    refine ⟨h2, some (T l), some (.slst (sts.map stW1)), some .non, ?_, w2⟩
    simp -dsimp [e4, e5, ebb]
  | some t2 =>
    obtain ⟨ws2, sts2, r2⟩ := row_of er
    have e4 := F.readY m2 l (.slst (sts.map stW1)) h2 (by omega) lsm (by omega) ow r2
    have e6 := F.cnts (sch m2) p2 h2 w2.sc2 l (.slst (sts.map stW1)) l6 lsm ow (by show m2.names.length ≤ 100; omega) r2
    rw [countsR_sch] at e6
    have qe := fun a b => eqO_tpI h2 a b
    rw [er] at e5
    refine ⟨h2, some (T l), some (.slst (sts.map stW1)), some (.tup [T t2, tpI (countsR m2 (metS l sts2 0))]), ?_, w2⟩
    simp -dsimp [e4, e5, e6, ebb, qe, L2.atI, L2.ixN]
theorem laps_ok (n : Nat) (h : List O) (w : WI m m2 p p2 b n ls h) (hn : n < 5000) (o8 o9 o10 o11 : Option W) : ∃ (h' : List O) (o8' o9' o10' o11' : Option W), evS X l0B6 (gSt s i b ls m m2 p p2 o8 o9 o10 o11) h = .ok .nx (gSt s i b ls m m2 p p2 o8' o9' o10' o11') h' := by
  obtain ⟨ℓ', h', e, ⟨o8', o9', o10', o11', rfl, w'⟩⟩ := for_inv (f := forBody X (.name 8) fb_law_1) (I := fun pre ℓ h => ∃ o8 o9 o10 o11, ℓ = gSt s i b ls m m2 p p2 o8 o9 o10 o11 ∧ WI m m2 p p2 b (n + 47 * pre.length) ls h) (ws := rngL 0 4) (pre := []) (ℓ := gSt s i b ls m m2 p p2 o8 o9 o10 o11) (h := h)
    (fun pre v q ℓ h hpre ⟨o8, o9, o10, o11, hℓ, w⟩ => by
      obtain ⟨hlen, j, rfl⟩ := rng_mem hpre
      subst hℓ
      obtain ⟨h1, o9', o10', o11', a1, w1⟩ := lap_ok X F R s i b ls m m2 p p2 (n + 47 * pre.length) h w (by omega) (some (.int (0 + (j : Int)))) o9 o10 o11
      refine ⟨gSt s i b ls m m2 p p2 (some (.int (0 + (j : Int)))) o9' o10' o11', h1, ?_, some (.int (0 + (j : Int))), o9', o10', o11', rfl, by rw [List.length_append, List.length_singleton]; exact w1⟩
      exact a1) ⟨o8, o9, o10, o11, rfl, w⟩
  refine ⟨h', o8', o9', o10', o11', ?_⟩
  have e0 : (ev X.cn (.int 4)).v (gSt s i b ls m m2 p p2 o8 o9 o10 o11) h = .ok (.int ((4 : Nat) : Int)) h := rfl
  show evS X (.for (.name 8) (.range (.cons (.int 4) .nil)) fb_law_1) _ h = _
  rw [s_for_, rng1_of e0 (by omega), liftE_ok]
  exact e
end
section
variable (X : Cc) (F : LF X) (R : ∀ (m : Mo) (p : Nat) (l : List Nat) (sts : List Stp) (t : List Nat) (h : List O), RR m p l sts t h → X.cn.call "_law_right" [.ref p, moW m, T l, .slst (sts.map stW1)] h = .ok (.bl true) h)
abbrev kSt (ns : List Int) (o1 o2 o3 o4 o5 o6 o7 o8 o9 o10 o11 : Option W) : Lo := [some (.slst (ns.map W.int)), o1, o2, o3, o4, o5, o6, o7, o8, o9, o10, o11]
include F R
theorem turn_ok (ns : List Int) (j : Nat) (h : List O) (o2 o3 o4 o5 o6 o7 o8 o9 o10 o11 : Option W) : ∃ (h' : List O) (o2' o3' o4' o5' o6' o7' o8' o9' o10' o11' : Option W), evSs X fb_law_0 (kSt ns (some (.int (j : Nat))) o2 o3 o4 o5 o6 o7 o8 o9 o10 o11) h = .ok .nx (kSt ns (some (.int (j : Nat))) o2' o3' o4' o5' o6' o7' o8' o9' o10' o11') h' := by
  obtain ⟨c, e1⟩ := F.cell h ns j
  obtain ⟨x, y, e2, b0⟩ := F.bag h c
  have a1 : evS X l0B1 (kSt ns (some (.int (j : Nat))) o2 o3 o4 o5 o6 o7 o8 o9 o10 o11) h = .ok .nx (kSt ns (some (.int (j : Nat))) (some (.ref h.length)) o3 o4 o5 o6 o7 o8 o9 o10 o11) (h ++ [.lst [.int x, .int y, .int 0]]) := by
    simp -dsimp [e1, e2]
  obtain ⟨ls, h2, e3, hls, b2, d2⟩ := F.letters _ h.length 0 b0 (by omega)
  have a2 : evS X l0B2 (kSt ns (some (.int (j : Nat))) (some (.ref h.length)) o3 o4 o5 o6 o7 o8 o9 o10 o11) (h ++ [.lst [.int x, .int y, .int 0]]) = .ok .nx (kSt ns (some (.int (j : Nat))) (some (.ref h.length)) (some (T ls)) o4 o5 o6 o7 o8 o9 o10 o11) h2 := by
    simp -dsimp [e3]
  obtain ⟨m, h3, e4, hm, b3, d3⟩ := F.model h.length (0 + 1) ls hls h2 b2 (by omega)
  have a3 : evS X l0B3 (kSt ns (some (.int (j : Nat))) (some (.ref h.length)) (some (T ls)) o4 o5 o6 o7 o8 o9 o10 o11) h2 = .ok .nx (kSt ns (some (.int (j : Nat))) (some (.ref h.length)) (some (T ls)) (some (moW m)) o5 o6 o7 o8 o9 o10 o11) h3 := by
    simp -dsimp [e4]
  have e5 := F.made h3 m hm
  have b4 : Bx h.length (0 + 1 + 10) (h3 ++ [schO (sch m) (.sdct [])]) := b3.app
  obtain ⟨m2, h5, e6, hm2, b5, d5⟩ := F.model h.length (0 + 1 + 10) ls hls _ b4 (by omega)
  have a4 : evS X l0B4 (kSt ns (some (.int (j : Nat))) (some (.ref h.length)) (some (T ls)) (some (moW m)) o5 o6 o7 o8 o9 o10 o11) h3 = .ok .nx (kSt ns (some (.int (j : Nat))) (some (.ref h.length)) (some (T ls)) (some (moW m)) (some (.ref h3.length)) (some (moW m2)) o7 o8 o9 o10 o11) h5 := by
    simp -dsimp [e5, e6]
  have e7 := F.made h5 m2 hm2
  have a5 : evS X l0B5 (kSt ns (some (.int (j : Nat))) (some (.ref h.length)) (some (T ls)) (some (moW m)) (some (.ref h3.length)) (some (moW m2)) o7 o8 o9 o10 o11) h5 = .ok .nx (gSt (some (.slst (ns.map W.int))) (some (.int (j : Nat))) h.length ls m m2 h3.length h5.length o8 o9 o10 o11) (h5 ++ [schO (sch m2) (.sdct [])]) := by
    simp -dsimp [e7]
  have l3 : h3.length = h.length + 1 := by
    have := d3.1
    have := d2.1
    rw [List.length_append, List.length_singleton] at this
    omega
  have l5 : h5.length = h.length + 2 := by
    have := d5.1
    rw [List.length_append, List.length_singleton] at this
    omega
  have sc : Sc (sch m) h3.length (h5 ++ [schO (sch m2) (.sdct [])]) := ((sc_made h3 [] (sch m) (.sdct [])).bd d5 (by omega)).app _
  have sc2 : Sc (sch m2) h5.length (h5 ++ [schO (sch m2) (.sdct [])]) := sc_made h5 [] (sch m2) (.sdct [])
  have w : WI m m2 h3.length h5.length h.length (0 + 1 + 10 + 10) ls (h5 ++ [schO (sch m2) (.sdct [])]) := ⟨sc, sc2, b5.app, by omega, by omega, hls, hm, hm2⟩
  obtain ⟨h6, o8', o9', o10', o11', a6⟩ := laps_ok X F R (some (.slst (ns.map W.int))) (some (.int (j : Nat))) h.length ls m m2 h3.length h5.length (0 + 1 + 10 + 10) _ w (by omega) o8 o9 o10 o11
  refine ⟨h6, some (.ref h.length), some (T ls), some (moW m), some (.ref h3.length), some (moW m2), some (.ref h5.length), o8', o9', o10', o11', ?_⟩
  rw [l0B_body, ss_cons, a1, seqS_nx, ss_cons, a2, seqS_nx, ss_cons, a3, seqS_nx, ss_cons, a4, seqS_nx, ss_cons, a5, seqS_nx, ss_one, a6]
theorem law_g (ns : List Int) : ∃ h', runF X d_law [.slst (ns.map W.int)] [] = .ok (.bl true) h' := by
  obtain ⟨mm, _, _, e0⟩ := capR_ok X.cn 2 6 (by omega) (by omega) ns [none, none, none, none, none, none, none, none, none, none, none] []
  obtain ⟨ℓ', h', e, ⟨o1, o2, o3, o4, o5, o6, o7, o8, o9, o10, o11, rfl⟩⟩ := for_inv (f := forBody X (.name 1) fb_law_0) (I := fun _ ℓ _ => ∃ o1 o2 o3 o4 o5 o6 o7 o8 o9 o10 o11, ℓ = kSt ns o1 o2 o3 o4 o5 o6 o7 o8 o9 o10 o11) (ws := (List.range mm).map fun k : Nat => W.int (0 + (k : Int))) (pre := []) (ℓ := kSt ns none none none none none none none none none none none) (h := [])
    (fun pre v q ℓ h hpre ⟨o1, o2, o3, o4, o5, o6, o7, o8, o9, o10, o11, hℓ⟩ => by
      obtain ⟨_, j, rfl⟩ := rng_mem hpre
      subst hℓ
      rw [Int.zero_add]
      obtain ⟨h1, o2', o3', o4', o5', o6', o7', o8', o9', o10', o11', a⟩ := turn_ok X F R ns j h o2 o3 o4 o5 o6 o7 o8 o9 o10 o11
      exact ⟨kSt ns (some (.int (j : Nat))) o2' o3' o4' o5' o6' o7' o8' o9' o10' o11', h1, a, some (.int (j : Nat)), o2', o3', o4', o5', o6', o7', o8', o9', o10', o11', rfl⟩) ⟨none, none, none, none, none, none, none, none, none, none, none, rfl⟩
  refine ⟨h', ?_⟩
  have e0' : evi X.cn (capR 2 6) (kSt ns none none none none none none none none none none none) [] = .ok ((List.range mm).map (fun k : Nat => W.int (0 + (k : Int))), []) [] := e0
  rw [runF_of rfl, lB_body]
  show gcF false [] (endF (evSs X (.cons (.for (.name 1) (capR 2 6) fb_law_0) (.cons lB2 .nil)) (kSt ns none none none none none none none none none none none) [])) = _
  rw [ss_cons, s_for_, e0', liftE_ok, e, seqS_nx, ss_one]
  rfl
end
theorem right_ok (k : Nat) (F : LF (C k)) (m : Mo) (p : Nat) (l : List Nat) (sts : List Stp) (t : List Nat) (h : List O) (r : RR m p l sts t h) : (C (k + 1)).cn.call "_law_right" [.ref p, moW m, T l, .slst (sts.map stW1)] h = .ok (.bl true) h := by
  rw [call__law_right]
  exact right_g (C k) F r
theorem law_true (ns : List Int) (_ : ns.length ≤ 63) : ∃ h', runF (C 12) d_law [.slst (ns.map W.int)] [] = .ok (.bl true) h' := law_g (C 12) lf (right_ok 11 lfk) ns
end L08
set_option maxRecDepth 100000
set_option maxHeartbeats 4000000
open PySem PySem.W PyProof.Rows
set_option maxHeartbeats 0 in
theorem PySem.Challenge.cw_seenchoices_k08_edit_rows_read_holds : PySem.Challenge.rw_seenchoices_k08_edit_rows_read.Holds := by
  w_on; o_law; k_head; (case hw => w_witness2)
  k_fill
  refine MP.walkG (l := PySem.Challenge.rw_seenchoices_k08_edit_rows_read) (n := 63) (k := 16) (x := "_law_script") (m := MP.runF (L08.C 12) L08.d_law) rfl (by decide) rfl ⟨rfl, by decide, by decide⟩ (by decide +kernel) (fun w h Y => PySem.W.kIn_of Y) ?F L08.law_true
  case F =>
    intro w mg fa h KX G hmg
    refine' L08.all_mk KX G hmg ?aC10 ?mA0 ?mF0 ?l0 ?c0 ?k0 ?mA1 ?mF1 ?l1 ?c1 ?k1 ?pA3 ?pG3 ?pT3 ?pR3 ?l2 ?c2 ?k2 ?pA0 ?pG0 ?pT0 ?pR0 ?l3 ?c3 ?k3 ?pA1 ?pG1 ?pT1 ?pR1 ?l4 ?c4 ?k4 ?pA2 ?pG2 ?pT2 ?pR2 ?l5 ?c5 ?k5 ?mA6 ?mF6 ?l6 ?c6 ?k6 ?mA7 ?mF7 ?l7 ?c7 ?k7 ?mA8 ?mF8 ?l8 ?lD8 ?c8 ?k8 ?a9 ?l9 ?c9 ?k9 ?a10 ?l10 ?c10 ?k10 ?a11 ?l11 ?c11 ?k11 ?a12 ?l12 ?c12 ?k12 ?a13 ?l13 ?c13 ?k13 ?a14 ?l14 ?c14 ?k14 ?a15 ?l15 ?c15 ?k15 ?a16 ?l16 ?c16 ?k16 ?a17 ?l17 ?c17 ?k17 ?a18 ?l18 ?c18 ?k18 ?a19 ?l19 ?c19 ?k19 ?a20 ?l20 ?c20 ?k20 ?a21 ?l21 ?c21 ?k21 ?a22 ?l22 ?c22 ?k22 ?a23 ?l23 ?c23 ?k23 ?a24 ?l24 ?c24 ?k24 ?a25 ?l25 ?c25 ?k25 ?a26 ?l26 ?c26 ?k26 ?a27 ?l27 ?c27 ?k27 ?a28 ?l28 ?c28 ?k28 ?a29 ?l29 ?c29 ?k29 ?a30 ?l30 ?c30 ?k30 ?a31 ?l31 ?c31 ?k31 ?a32 ?l32 ?c32 ?k32 ?a33 ?l33 ?c33 ?k33 ?a34 ?l34 ?c34 ?k34 ?a35 ?l35 ?c35 ?k35 ?a36 ?l36 ?c36 ?k36 ?a37 ?l37 ?c37 ?k37 ?a38 ?l38 ?c38 ?k38 ?a39 ?l39 ?c39 ?k39 ?a40 ?l40 ?c40 ?k40 ?a41 ?l41 ?c41 ?k41 ?a42 ?l42 ?c42 ?k42 ?a43 ?l43 ?c43 ?k43 ?a44 ?l44 ?c44 ?k44 ?a45 ?l45 ?c45 ?k45 ?aC0 ?aC1 ?eC1 ?tC1 ?aC2 ?eC2 ?tC2 ?aC3 ?eC3 ?tC3 ?aC4 ?eC4 ?tC4 ?aC5 ?eC5 ?tC5 ?aC6 ?eC6 ?tC6 ?aC7 ?eC7 ?tC7 ?aC8 ?eC8 ?tC8 ?aC9 ?eC9 ?tC9 ?yA10 ?yB10 ?yC10 ?yD10 ?yE10 ?yF10 ?yG10 ?yH10 ?yI10int ?yI10bool ?yI10str ?yI10list ?yI10tuple ?yI10dict ?yO10 ?yP10 ?yJ10NoneType ?yJ10bool ?yJ10int ?yJ10str ?yJ10tuple ?yJ10list ?yJ10dict ?yK0 ?yK1 ?yK2 ?yK3 ?yK4 ?yL10 ?yM10 ?rd0 ?ga0 ?in0 ?xL0 ?sa0 ?gax0 ?gg0 ?nb0 ?iN0 ?tI0 ?lI0 ?cI0 ?kI0 ?kC0 ?hC0 ?xL1 ?sa1 ?gax1 ?gg1 ?nb1 ?iN1 ?tI1 ?lI1 ?cI1 ?kI1 ?kC1 ?hC1 ?xL2 ?sa2 ?gax2 ?gg2 ?nb2 ?iN2 ?tI2 ?lI2 ?cI2 ?kI2 ?kC2 ?hC2 ?xL3 ?sa3 ?gax3 ?gg3 ?nb3 ?iN3 ?tI3 ?lI3 ?cI3 ?kI3 ?kC3 ?hC3 ?xL4 ?sa4 ?gax4 ?gg4 ?nb4 ?iN4 ?tI4 ?lI4 ?cI4 ?kI4 ?kC4 ?hC4 ?xL5 ?sa5 ?gax5 ?gg5 ?nb5 ?iN5 ?tI5 ?lI5 ?cI5 ?kI5 ?kC5 ?hC5 ?xL6 ?sa6 ?gax6 ?gg6 ?nb6 ?iN6 ?tI6 ?lI6 ?cI6 ?kI6 ?kC6 ?hC6 ?xL7 ?sa7 ?gax7 ?gg7 ?nb7 ?iN7 ?tI7 ?lI7 ?cI7 ?kI7 ?kC7 ?hC7 ?xL8 ?sa8 ?gax8 ?gg8 ?nb8 ?iN8 ?tI8 ?lI8 ?cI8 ?kI8 ?kC8 ?hC8 ?gl0x ?gl1x ?gl2x ?gl3x ?gl4x ?gl5x ?gl6x ?gl7x ?gl8x ?gl9x ?hb
    (case aC10 => k_is)
    (case mA0 => k_is)
    (case mF0 => k_is)
    (case l0 => k_is)
    (case c0 => k_is)
    (case k0 => k_is)
    (case mA1 => k_is)
    (case mF1 => k_is)
    (case l1 => k_is)
    (case c1 => k_is)
    (case k1 => k_is)
    (case pA3 => k_is)
    (case pG3 => k_is)
    (case pT3 => k_is)
    (case pR3 => k_is)
    (case l2 => k_is)
    (case c2 => k_is)
    (case k2 => k_is)
    (case pA0 => k_is)
    (case pG0 => k_is)
    (case pT0 => k_is)
    (case pR0 => k_is)
    (case l3 => k_is)
    (case c3 => k_is)
    (case k3 => k_is)
    (case pA1 => k_is)
    (case pG1 => k_is)
    (case pT1 => k_is)
    (case pR1 => k_is)
    (case l4 => k_is)
    (case c4 => k_is)
    (case k4 => k_is)
    (case pA2 => k_is)
    (case pG2 => k_is)
    (case pT2 => k_is)
    (case pR2 => k_is)
    (case l5 => k_is)
    (case c5 => k_is)
    (case k5 => k_is)
    (case mA6 => k_is)
    (case mF6 => k_is)
    (case l6 => k_is)
    (case c6 => k_is)
    (case k6 => k_is)
    (case mA7 => k_is)
    (case mF7 => k_is)
    (case l7 => k_is)
    (case c7 => k_is)
    (case k7 => k_is)
    (case mA8 => k_is)
    (case mF8 => k_is)
    (case l8 => k_is)
    (case lD8 => k_is)
    (case c8 => k_is)
    (case k8 => k_is)
    (case a9 => k_is)
    (case l9 => k_is)
    (case c9 => k_is)
    (case k9 => k_is)
    (case a10 => k_is)
    (case l10 => k_is)
    (case c10 => k_is)
    (case k10 => k_is)
    (case a11 => k_is)
    (case l11 => k_is)
    (case c11 => k_is)
    (case k11 => k_is)
    (case a12 => k_is)
    (case l12 => k_is)
    (case c12 => k_is)
    (case k12 => k_is)
    (case a13 => k_is)
    (case l13 => k_is)
    (case c13 => k_is)
    (case k13 => k_is)
    (case a14 => k_is)
    (case l14 => k_is)
    (case c14 => k_is)
    (case k14 => k_is)
    (case a15 => k_is)
    (case l15 => k_is)
    (case c15 => k_is)
    (case k15 => k_is)
    (case a16 => k_is)
    (case l16 => k_is)
    (case c16 => k_is)
    (case k16 => k_is)
    (case a17 => k_is)
    (case l17 => k_is)
    (case c17 => k_is)
    (case k17 => k_is)
    (case a18 => k_is)
    (case l18 => k_is)
    (case c18 => k_is)
    (case k18 => k_is)
    (case a19 => k_is)
    (case l19 => k_is)
    (case c19 => k_is)
    (case k19 => k_is)
    (case a20 => k_is)
    (case l20 => k_is)
    (case c20 => k_is)
    (case k20 => k_is)
    (case a21 => k_is)
    (case l21 => k_is)
    (case c21 => k_is)
    (case k21 => k_is)
    (case a22 => k_is)
    (case l22 => k_is)
    (case c22 => k_is)
    (case k22 => k_is)
    (case a23 => k_is)
    (case l23 => k_is)
    (case c23 => k_is)
    (case k23 => k_is)
    (case a24 => k_is)
    (case l24 => k_is)
    (case c24 => k_is)
    (case k24 => k_is)
    (case a25 => k_is)
    (case l25 => k_is)
    (case c25 => k_is)
    (case k25 => k_is)
    (case a26 => k_is)
    (case l26 => k_is)
    (case c26 => k_is)
    (case k26 => k_is)
    (case a27 => k_is)
    (case l27 => k_is)
    (case c27 => k_is)
    (case k27 => k_is)
    (case a28 => k_is)
    (case l28 => k_is)
    (case c28 => k_is)
    (case k28 => k_is)
    (case a29 => k_is)
    (case l29 => k_is)
    (case c29 => k_is)
    (case k29 => k_is)
    (case a30 => k_is)
    (case l30 => k_is)
    (case c30 => k_is)
    (case k30 => k_is)
    (case a31 => k_is)
    (case l31 => k_is)
    (case c31 => k_is)
    (case k31 => k_is)
    (case a32 => k_is)
    (case l32 => k_is)
    (case c32 => k_is)
    (case k32 => k_is)
    (case a33 => k_is)
    (case l33 => k_is)
    (case c33 => k_is)
    (case k33 => k_is)
    (case a34 => k_is)
    (case l34 => k_is)
    (case c34 => k_is)
    (case k34 => k_is)
    (case a35 => k_is)
    (case l35 => k_is)
    (case c35 => k_is)
    (case k35 => k_is)
    (case a36 => k_is)
    (case l36 => k_is)
    (case c36 => k_is)
    (case k36 => k_is)
    (case a37 => k_is)
    (case l37 => k_is)
    (case c37 => k_is)
    (case k37 => k_is)
    (case a38 => k_is)
    (case l38 => k_is)
    (case c38 => k_is)
    (case k38 => k_is)
    (case a39 => k_is)
    (case l39 => k_is)
    (case c39 => k_is)
    (case k39 => k_is)
    (case a40 => k_is)
    (case l40 => k_is)
    (case c40 => k_is)
    (case k40 => k_is)
    (case a41 => k_is)
    (case l41 => k_is)
    (case c41 => k_is)
    (case k41 => k_is)
    (case a42 => k_is)
    (case l42 => k_is)
    (case c42 => k_is)
    (case k42 => k_is)
    (case a43 => k_is)
    (case l43 => k_is)
    (case c43 => k_is)
    (case k43 => k_is)
    (case a44 => k_is)
    (case l44 => k_is)
    (case c44 => k_is)
    (case k44 => k_is)
    (case a45 => k_is)
    (case l45 => k_is)
    (case c45 => k_is)
    (case k45 => k_is)
    (case aC0 => k_is)
    (case aC1 => k_is)
    (case eC1 => k_is)
    (case tC1 => k_is)
    (case aC2 => k_is)
    (case eC2 => k_is)
    (case tC2 => k_is)
    (case aC3 => k_is)
    (case eC3 => k_is)
    (case tC3 => k_is)
    (case aC4 => k_is)
    (case eC4 => k_is)
    (case tC4 => k_is)
    (case aC5 => k_is)
    (case eC5 => k_is)
    (case tC5 => k_is)
    (case aC6 => k_is)
    (case eC6 => k_is)
    (case tC6 => k_is)
    (case aC7 => k_is)
    (case eC7 => k_is)
    (case tC7 => k_is)
    (case aC8 => k_is)
    (case eC8 => k_is)
    (case tC8 => k_is)
    (case aC9 => k_is)
    (case eC9 => k_is)
    (case tC9 => k_is)
    (case yA10 => k_is)
    (case yB10 => k_is)
    (case yC10 => k_is)
    (case yD10 => k_is)
    (case yE10 => k_is)
    (case yF10 => k_is)
    (case yG10 => k_is)
    (case yH10 => k_is)
    (case yI10int => k_is)
    (case yI10bool => k_is)
    (case yI10str => k_is)
    (case yI10list => k_is)
    (case yI10tuple => k_is)
    (case yI10dict => k_is)
    (case yO10 => k_is)
    (case yP10 => k_is)
    (case yJ10NoneType => k_is)
    (case yJ10bool => k_is)
    (case yJ10int => k_is)
    (case yJ10str => k_is)
    (case yJ10tuple => k_is)
    (case yJ10list => k_is)
    (case yJ10dict => k_is)
    (case yK0 => k_is)
    (case yK1 => k_is)
    (case yK2 => k_is)
    (case yK3 => k_is)
    (case yK4 => k_is)
    (case yL10 => k_is)
    (case yM10 => k_is)
    (case rd0 => k_is)
    (case ga0 => k_is)
    (case in0 => k_is)
    (case xL0 => k_is)
    (case sa0 => k_is)
    (case gax0 => k_is)
    (case gg0 => k_is)
    (case nb0 => k_is)
    (case iN0 => k_is)
    (case tI0 => k_is)
    (case lI0 => k_is)
    (case cI0 => k_is)
    (case kI0 => k_is)
    (case kC0 => k_is)
    (case hC0 => k_is)
    (case xL1 => k_is)
    (case sa1 => k_is)
    (case gax1 => k_is)
    (case gg1 => k_is)
    (case nb1 => k_is)
    (case iN1 => k_is)
    (case tI1 => k_is)
    (case lI1 => k_is)
    (case cI1 => k_is)
    (case kI1 => k_is)
    (case kC1 => k_is)
    (case hC1 => k_is)
    (case xL2 => k_is)
    (case sa2 => k_is)
    (case gax2 => k_is)
    (case gg2 => k_is)
    (case nb2 => k_is)
    (case iN2 => k_is)
    (case tI2 => k_is)
    (case lI2 => k_is)
    (case cI2 => k_is)
    (case kI2 => k_is)
    (case kC2 => k_is)
    (case hC2 => k_is)
    (case xL3 => k_is)
    (case sa3 => k_is)
    (case gax3 => k_is)
    (case gg3 => k_is)
    (case nb3 => k_is)
    (case iN3 => k_is)
    (case tI3 => k_is)
    (case lI3 => k_is)
    (case cI3 => k_is)
    (case kI3 => k_is)
    (case kC3 => k_is)
    (case hC3 => k_is)
    (case xL4 => k_is)
    (case sa4 => k_is)
    (case gax4 => k_is)
    (case gg4 => k_is)
    (case nb4 => k_is)
    (case iN4 => k_is)
    (case tI4 => k_is)
    (case lI4 => k_is)
    (case cI4 => k_is)
    (case kI4 => k_is)
    (case kC4 => k_is)
    (case hC4 => k_is)
    (case xL5 => k_is)
    (case sa5 => k_is)
    (case gax5 => k_is)
    (case gg5 => k_is)
    (case nb5 => k_is)
    (case iN5 => k_is)
    (case tI5 => k_is)
    (case lI5 => k_is)
    (case cI5 => k_is)
    (case kI5 => k_is)
    (case kC5 => k_is)
    (case hC5 => k_is)
    (case xL6 => k_is)
    (case sa6 => k_is)
    (case gax6 => k_is)
    (case gg6 => k_is)
    (case nb6 => k_is)
    (case iN6 => k_is)
    (case tI6 => k_is)
    (case lI6 => k_is)
    (case cI6 => k_is)
    (case kI6 => k_is)
    (case kC6 => k_is)
    (case hC6 => k_is)
    (case xL7 => k_is)
    (case sa7 => k_is)
    (case gax7 => k_is)
    (case gg7 => k_is)
    (case nb7 => k_is)
    (case iN7 => k_is)
    (case tI7 => k_is)
    (case lI7 => k_is)
    (case cI7 => k_is)
    (case kI7 => k_is)
    (case kC7 => k_is)
    (case hC7 => k_is)
    (case xL8 => k_is)
    (case sa8 => k_is)
    (case gax8 => k_is)
    (case gg8 => k_is)
    (case nb8 => k_is)
    (case iN8 => k_is)
    (case tI8 => k_is)
    (case lI8 => k_is)
    (case cI8 => k_is)
    (case kI8 => k_is)
    (case kC8 => k_is)
    (case hC8 => k_is)
    (case gl0x => k_is)
    (case gl1x => k_is)
    (case gl2x => k_is)
    (case gl3x => k_is)
    (case gl4x => k_is)
    (case gl5x => k_is)
    (case gl6x => k_is)
    (case gl7x => k_is)
    (case gl8x => k_is)
    (case gl9x => k_is)
    case hb =>
      intro x hx
      simp only [MP.bltNames, List.mem_cons, List.not_mem_nil, or_false] at hx
      rcases hx with rfl | rfl | rfl | rfl | rfl | rfl | rfl | rfl | rfl | rfl | rfl | rfl | rfl | rfl | rfl | rfl | rfl | rfl | rfl | rfl | rfl <;> k_is
