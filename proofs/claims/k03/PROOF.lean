import PyProof.Rows.All
import Wide.All
import OpenK.AllK
import Wide.FinOn
import HandS.Base
import HandS.Call
import HandS.List
import HandS.Text
import HandS.Comp
import HandS.Walk
import HandS.Dict
import HandS.Exc
import HandS.ExcOwn
import HandS.Wide
import HandS.TupAny
import HandS.Flow
import HandS.IsInst
import HandS.RaiseMore
import HandS.Words
import HandS.Iter
import HandS.Zip
import HandS.Conv
import HandS.Lambda
import HandS.TryOnly
import HandS.ExcInit
import HandS.ExcField
import HandS.Codes
import HandS.Ends
import PySem.Challenge.RW_seenchoices_k03_integers_scaled
set_option Elab.async false
set_option linter.all false
set_option maxRecDepth 100000
set_option maxHeartbeats 4000000
/-! A small interpreter for the part of Python that the program and the laws use; values without addresses, tuples immediate. -/
namespace MP
open PySem PySem.Spec PyProof.Rows L2

/-- a value: tuples are immediate, mutable objects stand in a heap by number -/
inductive W where
  | non | bl (b : Bool) | int (i : Int) | str (x : Str) | tup (ws : List W) | slst (ws : List W) | sdct (kvs : List (Key × W)) | ref (n : Nat)
  deriving Inhabited

/-- an object of the heap -/
inductive O where
  | lst (ws : List W)
  | dct (kvs : List (Key × W))
  | ins (c : Str) (fs : List (Str × W))

/-- an exception: its class and its field, if any -/
structure Exn where
  cls : Str
  fs : List (Str × W)

inductive R (α : Type) where
  | ok (a : α) (h : List O)
  | exc (x : Exn) (h : List O)
  | stuck
/-- keeps simp out of what stands there -/
inductive Tag {α : Type} (a : α) : Type where
  | mk
namespace R
def bind {α β : Type} (r : R α) (f : α → List O → R β) (_t : Tag f := .mk) : R β := match r with
  | .ok a h => f a h
  | .exc x h => .exc x h
  | .stuck => .stuck
@[simp] theorem bind_ok {α β : Type} (a : α) (h : List O) (f : α → List O → R β) : (R.ok a h).bind f = f a h := rfl
@[simp] theorem bind_exc {α β : Type} (x : Exn) (h : List O) (f : α → List O → R β) : (R.exc x h : R α).bind f = .exc x h := rfl
@[simp] theorem bind_stuck {α β : Type} (f : α → List O → R β) : (R.stuck : R α).bind f = .stuck := rfl
end R
/-- where no exception may come out -/
def noX {α : Type} (r : R α) : R α := match r with
  | .ok a h => .ok a h
  | _ => .stuck
/-- the locals: by slot -/
abbrev Lo := List (Option W)
/-- on only where a check holds -/
def chk {α : Type} (b : Bool) (r : R α) : R α := if b = true then r else .stuck
@[simp] theorem chk_true {α : Type} (r : R α) : chk true r = r := rfl

/-! ### syntax -/
mutual
inductive Me where
  | var (i : Nat)
  | glob (x : Str)
  | non | bl (b : Bool) | int (i : Int) | str (x : Str)
  | tup (es : Mes)
  | lst (es : Mes)
  | dct (kvs : Mks)
  | lrep (a n : Me)
  | lcat (a b : Me)
  | lcut (a : Me) (lo hi : Mo)
  | bin (op : Operator) (a b : Me)
  | neg (a : Me)
  | not (a : Me)
  | boolop (op : BoolOp) (es : Mes)
  | cmp (op : CmpOp) (a b : Me)
  | chain (op1 op2 : CmpOp) (a b c : Me)
  | ife (c a b : Me)
  | call (f : Str) (es : Mes)
  | blt (f : Str) (es : Mes)
  | isi (a : Me) (ts : List String)
  | sub (a i : Me)
  | slice (a : Me) (lo hi : Mo)
  | attr (a : Me) (f : Str)
  | bm (m : Str) (a : Me) (es : Mes)
  | lcomp (elt : Me) (tg : Mt) (src : Mi) (ifs : Mo) (own : List Nat)
  | frz (a : Me)
  | frd (kvs : Mks)
inductive Mes where
  | nil
  | cons (e : Me) (es : Mes)
inductive Mks where
  | nil
  | cons (k v : Me) (r : Mks)
inductive Mo where
  | none
  | some (e : Me)
inductive Mt where
  | name (i : Nat)
  | tup (ts : Mts)
  | sub (a i : Me)
inductive Mts where
  | nil
  | cons (t : Mt) (ts : Mts)
inductive Mi where
  | val (e : Me)
  | range (es : Mes)
  | zip (a b : Me)
  | enum (a : Me)
end
/-- what a clause hands back: texts and fields of what it caught -/
inductive Hx where
  | lit (s : Str) | fld (f : Str)
  deriving DecidableEq
/-- except cls as (slot): return [..] -/
structure Hd where
  cls : Str
  slot : Nat
  items : List Hx
mutual
inductive Ms where
  | asg (t : Mt) (e : Me)
  | par (i j : Nat) (a b : Me)
  | expr (e : Me)
  | ret (e : Me)
  | retN
  | pass | brk | cont
  | ife (c : Me) (a b : Mss)
  | for (t : Mt) (s : Mi) (b : Mss)
  | while (c : Me) (b : Mss)
  | raise (c f : Str) (e : Me)
  | try (b : Mss) (hs : List Hd)
inductive Mss where
  | nil
  | cons (s : Ms) (ss : Mss)
end

/-! ### operations on values -/
def keyD : Key → PyData
  | .inl i => .int i
  | .inr x => .str x
/-- the data that a value is, some levels deep -/
def toD (h : List O) : Nat → W → Option PyData
  | _, .non => some .none
  | _, .bl b => some (.bool b)
  | _, .int i => some (.int i)
  | _, .str x => some (.str x)
  | 0, .tup _ => none
  | 0, .slst _ => none
  | 0, .sdct _ => none
  | 0, .ref _ => none
  | n + 1, .tup ws => (ws.mapM (toD h n)).map .tuple
  | n + 1, .slst ws => (ws.mapM (toD h n)).map .list
  | n + 1, .sdct kvs => (kvs.mapM fun kv => (toD h n kv.2).map fun d => (keyD kv.1, d)).map .dict
  | n + 1, .ref i => match h[i]? with
    | some (.lst ws) => (ws.mapM (toD h n)).map .list
    | some (.dct kvs) => (kvs.mapM fun kv => (toD h n kv.2).map fun d => (keyD kv.1, d)).map .dict
    | _ => none
abbrev dDepth : Nat := 12

/-- scalars that the machine compares at once -/
def scalW : W → W → Bool
  | .non, .non => true | .non, .int _ => true | .int _, .non => true | .non, .bl _ => true | .bl _, .non => true | .non, .str _ => true | .str _, .non => true
  | .int _, .int _ => true | .bl _, .bl _ => true | .str _, .str _ => true
  | .int _, .str _ => true | .str _, .int _ => true | .bl _, .str _ => true | .str _, .bl _ => true
  | _, _ => false
def eqS : W → W → Bool
  | .non, .non => true
  | .int i, .int j => i == j
  | .bl i, .bl j => i == j
  | .str i, .str j => i == j
  | _, _ => false
/-- == -/
def eqW (h : List O) (x y : W) : Option Bool :=
  if scalW x y = true then some (eqS x y) else
  match toD h dDepth x, toD h dDepth y with
  | some d, some e => if (SeqAt.shaped d && SeqAt.shaped e) = true then some (PyData.eqv d e) else none
  | _, _ => none

def flatW : W → Bool
  | .non => true | .bl _ => true | .int _ => true | .str _ => true
  | _ => false
def eqF : W → W → Bool
  | .non, .non => true
  | .bl a, .bl b => a == b
  | .bl a, .int b => (if a then 1 else 0) == b
  | .int a, .bl b => a == (if b then 1 else 0)
  | .int a, .int b => a == b
  | .str a, .str b => a == b
  | _, _ => false
/-- the items of a list or a tuple -/
def seqW (h : List O) : W → Option (List W)
  | .tup ws => some ws
  | .slst ws => some ws
  | .ref n => match h[n]? with
    | some (.lst ws) => some ws
    | _ => none
  | _ => none
def oB (o : Option Bool) (h : List O) : R W := match o with
  | some b => .ok (.bl b) h
  | none => .stuck
def inW (h : List O) (x y : W) : Option Bool := match x, y with
  | .str a, .str b => some (!(Builtin.Str.occurrences b a 0 b.length 1).isEmpty)
  | x, y => match seqW h y with
    | some ws => if (flatW x && ws.all flatW) = true then some (ws.any fun z => eqF z x) else none
    | none => none
def isW (x y : W) : Option Bool := match y with
  | .non => some (match x with | .non => true | _ => false)
  | _ => none
def cmpI (op : CmpOp) (i j : Int) : Bool := match op with
  | .Lt => decide (i < j) | .LtE => decide (i ≤ j) | .Gt => decide (j < i) | .GtE => decide (j ≤ i)
  | _ => false
def cmpW (op : CmpOp) (x y : W) (h : List O) : R W := match op with
  | .Eq => oB (eqW h x y) h
  | .NotEq => oB ((eqW h x y).map (!·)) h
  | .In => oB (inW h x y) h
  | .NotIn => oB ((inW h x y).map (!·)) h
  | .Is => oB (isW x y) h
  | .IsNot => oB ((isW x y).map (!·)) h
  | op => match x, y with
    | .int i, .int j => .ok (.bl (cmpI op i j)) h
    | _, _ => .stuck

def mulOk (i j : Int) : Bool := decide (-(2 ^ 64) < i ∧ i < 2 ^ 64) || (decide (-(2 ^ 64) < j ∧ j < 2 ^ 64) || decide (i.natAbs.log2 + j.natAbs.log2 < 1000000))
def divOk (j : Int) : Bool := decide (j ≠ 0 ∧ j.natAbs < 1073741824) || decide (0 < j ∧ j.natAbs.log2 < 9000)
def powOk (i j : Int) : Bool := decide (0 ≤ j ∧ j ≤ 1000000 ∧ i.natAbs < 2 ^ 64)
def alloc (o : O) (h : List O) : R W := .ok (.ref h.length) (h ++ [o])
def binW (op : Operator) (x y : W) (h : List O) : R W := match op, x, y with
  | .Add, .int i, .int j => .ok (.int (i + j)) h
  | .Add, .tup a, .tup b => chk (decide (a.length + b.length ≤ sizeLine)) (.ok (.tup (a ++ b)) h)
  | .Add, .slst a, .slst b => chk (decide (a.length + b.length ≤ sizeLine)) (.ok (.slst (a ++ b)) h)
  | .Add, .ref m, .ref n => match h[m]?, h[n]? with
    | some (.lst a), some (.lst b) => chk (decide (a.length + b.length ≤ sizeLine)) (alloc (.lst (a ++ b)) h)
    | _, _ => .stuck
  | .Add, .str i, .str j => chk (decide (i.length + j.length ≤ sizeLine)) (.ok (.str (i ++ j)) h)
  | .Sub, .int i, .int j => .ok (.int (i - j)) h
  | .Mult, .int i, .int j => chk (mulOk i j) (.ok (.int (i * j)) h)
  | .FloorDiv, .int i, .int j => chk (divOk j) (.ok (.int (i.fdiv j)) h)
  | .Mod, .int i, .int j => chk (decide (j ≠ 0)) (.ok (.int (i.fmod j)) h)
  | .Pow, .int i, .int j => chk (powOk i j) (.ok (.int (i ^ j.toNat)) h)
  | _, _, _ => .stuck
def truW (h : List O) : W → Option Bool
  | .non => some false
  | .bl b => some b
  | .int i => some (i != 0)
  | .str x => if x.length ≤ sizeLine then some ((x.length : Int) != 0) else none
  | .tup ws => some (!ws.isEmpty)
  | .slst ws => some (!ws.isEmpty)
  | .sdct _ => none
  | .ref n => match h[n]? with
    | some (.lst ws) => some (!ws.isEmpty)
    | some (.dct kvs) => some (!kvs.isEmpty)
    | _ => none
def truR (h : List O) (x : W) : R Bool := match truW h x with
  | some b => .ok b h
  | none => .stuck
def subW (x y : W) (h : List O) : R W := match x, y with
  | .str z, .int i => chk (decide (z.length ≤ sizeLine)) (match atI z.cps.toList i with
    | some c => .ok (.str ⟨#[c]⟩) h
    | none => .stuck)
  | x, .int i => match seqW h x with
    | some ws => match atI ws i with
      | some w => .ok w h
      | none => .stuck
    | none => .stuck
  | _, _ => .stuck
/-- the items of xs[lo:hi] -/
def cutW {α : Type} (xs : List α) (lo hi : Option Int) : List α := (xs.drop (HT.sIx xs.length 0 lo)).take (HT.sIx xs.length xs.length hi - HT.sIx xs.length 0 lo)
def wType : W → List O → Option String
  | .non, _ => some "NoneType"
  | .bl _, _ => some "bool"
  | .int _, _ => some "int"
  | .str _, _ => some "str"
  | .tup _, _ => some "tuple"
  | .slst _, _ => some "list"
  | .sdct _, _ => some "dict"
  | .ref n, h => match h[n]? with
    | some (.lst _) => some "list"
    | some (.dct _) => some "dict"
    | _ => none
end MP
set_option maxRecDepth 100000
set_option maxHeartbeats 4000000
namespace MP
open PySem PySem.Spec PyProof.Rows L2

mutual
def W.beq : W → W → Bool
  | .non, .non => true
  | .bl a, .bl b => a == b
  | .int a, .int b => a == b
  | .str a, .str b => decide (a = b)
  | .tup a, .tup b => W.beqs a b
  | .slst a, .slst b => W.beqs a b
  | .sdct a, .sdct b => W.beqk a b
  | .ref a, .ref b => a == b
  | _, _ => false
def W.beqs : List W → List W → Bool
  | [], [] => true
  | x :: xs, y :: ys => W.beq x y && W.beqs xs ys
  | _, _ => false
def W.beqk : List (Key × W) → List (Key × W) → Bool
  | [], [] => true
  | (k, x) :: xs, (j, y) :: ys => decide (k = j) && (W.beq x y && W.beqk xs ys)
  | _, _ => false
end
mutual
theorem W.beq_refl : ∀ a : W, W.beq a a = true
  | .non => rfl
  | .bl a => by simp [W.beq]
  | .int a => by simp [W.beq]
  | .str a => by simp [W.beq]
  | .tup a => by rw [W.beq]; exact W.beqs_refl a
  | .slst a => by rw [W.beq]; exact W.beqs_refl a
  | .sdct a => by rw [W.beq]; exact W.beqk_refl a
  | .ref a => by simp [W.beq]
theorem W.beqs_refl : ∀ a : List W, W.beqs a a = true
  | [] => rfl
  | x :: xs => by rw [W.beqs, W.beq_refl x, W.beqs_refl xs]; rfl
theorem W.beqk_refl : ∀ a : List (Key × W), W.beqk a a = true
  | [] => rfl
  | (k, x) :: xs => by rw [W.beqk, W.beq_refl x, W.beqk_refl xs, decide_eq_true rfl]; rfl
end
mutual
theorem W.beq_eq : ∀ {a b : W}, W.beq a b = true → a = b
  | .non, b, h => by cases b <;> first | rfl | (simp [W.beq] at h; done)
  | .bl a, b, h => by cases b <;> first | (simp [W.beq] at h; rw [h]; done) | (simp [W.beq] at h; done)
  | .int a, b, h => by cases b <;> first | (simp [W.beq] at h; rw [h]; done) | (simp [W.beq] at h; done)
  | .str a, b, h => by cases b <;> first | (simp [W.beq] at h; rw [h]; done) | (simp [W.beq] at h; done)
  | .ref a, b, h => by cases b <;> first | (simp [W.beq] at h; rw [h]; done) | (simp [W.beq] at h; done)
  | .tup a, b, h => by
    cases b with
    | tup b => rw [W.beq] at h; rw [W.beqs_eq h]
    | _ => simp [W.beq] at h
  | .slst a, b, h => by
    cases b with
    | slst b => rw [W.beq] at h; rw [W.beqs_eq h]
    | _ => simp [W.beq] at h
  | .sdct a, b, h => by
    cases b with
    | sdct b => rw [W.beq] at h; rw [W.beqk_eq h]
    | _ => simp [W.beq] at h
theorem W.beqs_eq : ∀ {a b : List W}, W.beqs a b = true → a = b
  | [], [], _ => rfl
  | x :: xs, y :: ys, h => by
    rw [W.beqs, Bool.and_eq_true] at h
    rw [W.beq_eq h.1, W.beqs_eq h.2]
  | [], _ :: _, h => by simp [W.beqs] at h
  | _ :: _, [], h => by simp [W.beqs] at h
theorem W.beqk_eq : ∀ {a b : List (Key × W)}, W.beqk a b = true → a = b
  | [], [], _ => rfl
  | (k, x) :: xs, (j, y) :: ys, h => by
    rw [W.beqk, Bool.and_eq_true, Bool.and_eq_true] at h
    rw [of_decide_eq_true h.1, W.beq_eq h.2.1, W.beqk_eq h.2.2]
  | [], _ :: _, h => by simp [W.beqk] at h
  | _ :: _, [], h => by simp [W.beqk] at h
end

/-! ### what is walked: the items, and the lists of the heap that must stay as they are meanwhile -/
abbrev Gd := List (Nat × List W)
def gOk (h : List O) (g : Nat × List W) : Bool := match h[g.1]? with
  | some (.lst ws) => W.beqs ws g.2
  | _ => false
def gsOk (h : List O) (gs : Gd) : Bool := gs.all (gOk h)
theorem gOk_of {h : List O} {n : Nat} {ws : List W} (e : h[n]? = some (.lst ws)) : gOk h (n, ws) = true := by
  unfold gOk
  rw [e]
  exact W.beqs_refl ws
theorem gsOk_nil {h : List O} : gsOk h [] = true := rfl
theorem gsOk_one {h : List O} {n : Nat} {ws : List W} (e : h[n]? = some (.lst ws)) : gsOk h [(n, ws)] = true := by
  unfold gsOk
  rw [List.all_cons, gOk_of e]
  rfl

/-- what an expression does: its value, its truth, its items where it stands for a list (e: a new list that nobody else holds) -/
structure Sm where
  v : Lo → List O → R W
  t : Lo → List O → R Bool
  l : Lo → List O → R (List W)
  e : Bool
def chars (x : Str) : List W := x.cps.toList.map fun c => .str ⟨#[c]⟩
def seqR (h : List O) (w : W) : R (List W) := match seqW h w with
  | some ws => .ok ws h
  | none => .stuck
/-- a plain value -/
def smV (v : Lo → List O → R W) : Sm := ⟨v, fun ℓ h => (v ℓ h).bind fun w h => truR h w, fun ℓ h => (v ℓ h).bind fun w h => seqR h w, false⟩
/-- a new list -/
def smL (l : Lo → List O → R (List W)) : Sm := ⟨fun ℓ h => (l ℓ h).bind fun ws h => alloc (.lst ws) h, fun ℓ h => (l ℓ h).bind fun ws h => .ok (!ws.isEmpty) h, l, true⟩
def unBl (r : R W) : R Bool := r.bind fun w h => match w with
  | .bl b => .ok b h
  | _ => .stuck
/-- an operand: a new list's items, or a value -/
abbrev Opd := List W ⊕ W
def Sm.opd (s : Sm) (ℓ : Lo) (h : List O) : R Opd := if s.e = true then (s.l ℓ h).bind fun ws h => .ok (.inl ws) h else (s.v ℓ h).bind fun w h => .ok (.inr w) h
def datO (h : List O) : Opd → Option PyData
  | .inl ws => (ws.mapM (toD h dDepth)).map .list
  | .inr w => toD h dDepth w
def eqO (h : List O) (a b : Opd) : Option Bool := match a, b with
  | .inr x, .inr y => eqW h x y
  | a, b => match datO h a, datO h b with
    | some d, some e => if (SeqAt.shaped d && SeqAt.shaped e) = true then some (PyData.eqv d e) else none
    | _, _ => none
def inO (h : List O) (a b : Opd) : Option Bool := match a, b with
  | .inr x, .inr y => inW h x y
  | .inr x, .inl ws => if (flatW x && ws.all flatW) = true then some (ws.any fun z => eqF z x) else none
  | _, _ => none
def cmpO (op : CmpOp) (a b : Opd) (h : List O) : R W := match op with
  | .Eq => oB (eqO h a b) h
  | .NotEq => oB ((eqO h a b).map (!·)) h
  | .In => oB (inO h a b) h
  | .NotIn => oB ((inO h a b).map (!·)) h
  | op => match a, b with
    | .inr x, .inr y => cmpW op x y h
    | _, _ => .stuck

/-- a list -/
def lsqO (h : List O) : Opd → R (List W)
  | .inl ws => .ok ws h
  | .inr (.slst ws) => .ok ws h
  | .inr (.ref n) => match h[n]? with
    | some (.lst ws) => .ok ws h
    | _ => .stuck
  | _ => .stuck

/-! ### loops -/
/-- the turns of a comprehension: each gives an item or nothing -/
def lcLoop (f : W → List O → R (Option W)) (gs : Gd) : Nat → List W → List O → R (List W)
  | _, [], h => chk (gsOk h gs) (.ok [] h)
  | k, w :: ws, h => chk (gsOk h gs) ((noX (f w h)).bind fun o h1 => match o with
    | some y => chk (decide (k < sizeLine)) ((lcLoop f gs (k + 1) ws h1).bind fun r h2 => .ok (y :: r) h2)
    | none => lcLoop f gs k ws h1)
def rngN (i j c : Int) : Nat := if 0 < c then ((j - i + c - 1) / c).toNat else ((i - j - c - 1) / (-c)).toNat
def rngOk (i : Int) : Bool := decide (-(2 ^ 62) ≤ i ∧ i < 2 ^ 62)
def rngL (i : Int) (n : Nat) : List W := (List.range n).map fun k : Nat => W.int (i + k)
def zipW : List W → List W → List W
  | x :: xs, y :: ys => .tup [x, y] :: zipW xs ys
  | _, _ => []
def enumW : Nat → List W → List W
  | _, [] => []
  | k, x :: xs => .tup [.int k, x] :: enumW (k + 1) xs

def rngM (ws : List W) (h : List O) : R (List W × Gd) := match ws with
    | [.int j] => chk (rngOk j) (.ok (rngL 0 j.toNat, []) h)
    | [.int i, .int j] => chk (rngOk i && rngOk j) (.ok (rngL i (j - i).toNat, []) h)
    | _ => .stuck
/-! ### built-in functions -/
def isiB (t T : String) : Bool := t == T || (t == "bool" && T == "int")
def isiW (ts : List String) (w : W) (h : List O) : R W := match wType w h with
  | some t => .ok (.bl (ts.any fun T => isiB t T)) h
  | none => .stuck
def unInts : List W → Option (List Int)
  | [] => some []
  | .int i :: r => (unInts r).map (i :: ·)
  | _ => none
def unBls : List W → Option (List Bool)
  | [] => some []
  | .bl i :: r => (unBls r).map (i :: ·)
  | _ => none
def unStrs : List W → Option (List Str)
  | [] => some []
  | .str i :: r => (unStrs r).map (i :: ·)
  | _ => none
/-- of one list or tuple -/
def bltL (f : Str) (ws : List W) (h : List O) : R W :=
  if f = "all" then (match unBls ws with | some bs => .ok (.bl (bs.all id)) h | none => .stuck)
  else if f = "any" then (match unBls ws with | some bs => .ok (.bl (bs.any id)) h | none => .stuck)
  else if f = "sum" then (match unInts ws with | some ns => .ok (.int ns.sum) h | none => .stuck)
  else .stuck
def lenW (w : W) (h : List O) : R W := match w with
  | .str z => chk (decide (z.length ≤ sizeLine)) (.ok (.int z.length) h)
  | w => (seqR h w).bind fun ws h => .ok (.int ws.length) h
/-- of values -/
def bltV (f : Str) (ws : List W) (h : List O) : R W :=
  if f = "abs" then (match ws with | [.int i] => .ok (.int (if i < 0 then -i else i)) h | _ => .stuck)
  else if f = "max" then (match ws with | [.int i, .int j] => .ok (.int (if j > i then j else i)) h | _ => .stuck)
  else if f = "min" then (match ws with | [.int i, .int j] => .ok (.int (if j < i then j else i)) h | _ => .stuck)
  else .stuck
def reprO (h : List O) (a : Opd) : R W := match datO h a with
  | some d => chk (d.showable && decide (d.shown.length ≤ sizeLine)) (.ok (.str d.shown) h)
  | none => .stuck
def joinR (a : Str) (ws : List W) (h : List O) : R W := match unStrs ws with
  | some ys => chk (decide ((ys.map (·.length)).sum + ys.length * a.length ≤ 16777216)) (.ok (.str (Txt.join a ys)) h)
  | none => .stuck
def appR (x y : W) (h : List O) : R W := match x with
  | .ref n => match h[n]? with
    | some (.lst ws) => chk (decide (ws.length < sizeLine)) (.ok .non (h.set n (.lst (ws ++ [y]))))
    | _ => .stuck
  | _ => .stuck
/-- is it a list that may be written -/
def isLst (h : List O) : W → Bool
  | .ref n => match h[n]? with
    | some (.lst _) => true
    | _ => false
  | _ => false
/-- methods of built-in types, with values -/
def bmV (m : Str) (x : W) (ws : List W) (h : List O) : R W :=
  if m = "append" then (match ws with | [y] => appR x y h | _ => .stuck)
  else .stuck

/-- the key that a value is -/
def keyW : W → Option Key
  | .int i => some (.inl i)
  | .str x => some (.inr x)
  | _ => none
def putW (kvs : List (Key × W)) (k : Key) (v : W) : List (Key × W) :=
  if (kvs.any fun kv => decide (kv.1 = k)) = true then kvs.map (fun kv => if kv.1 = k then (kv.1, v) else kv) else kvs ++ [(k, v)]
def mergeW (kvs more : List (Key × W)) : List (Key × W) := more.foldl (fun acc kv => putW acc kv.1 kv.2) kvs
/-! ### targets -/
def setSub (x i w : W) (h : List O) : R Unit := match x, i with
  | .ref n, .int k => match h[n]? with
    | some (.lst ws) => match ixN ws.length k with
      | some j => .ok () (h.set n (.lst (ws.set j w)))
      | none => .stuck
    | _ => .stuck
  | _, _ => .stuck

/-- what is walked: a list, a tuple, a text -/
def seqO (st : Bool) (h : List O) : Opd → R (List W × Gd)
  | .inl ws => .ok (ws, []) h
  | .inr (.tup ws) => .ok (ws, []) h
  | .inr (.slst ws) => .ok (ws, []) h
  | .inr (.str x) => if st = true then .ok (chars x, []) h else .stuck
  | .inr (.ref n) => match h[n]? with
    | some (.lst ws) => .ok (ws, [(n, ws)]) h
    | _ => .stuck
  | _ => .stuck
def tupO : Opd → Bool
  | .inr (.tup _) => true
  | _ => false

/-! ### evaluation -/
structure Cn where
  call : Str → List W → List O → R W
  gl : Str → Option W
  fuel : Nat
def wipeL (ℓ : Lo) : List Nat → Lo
  | [] => ℓ
  | v :: vs => (wipeL ℓ vs).set v none
abbrev Tg := W → Lo → List O → R Lo
abbrev Tgs := List W → Lo → List O → R Lo
def ofO {α : Type} (o : Option α) (h : List O) : R α := match o with
  | some a => .ok a h
  | none => .stuck
def getL (ℓ : Lo) (i : Nat) : Option W := match ℓ[i]? with
  | some (some w) => some w
  | _ => none
abbrev Po := Lo → List O → R (Option Int)
mutual
def ev (C : Cn) : Me → Sm
  | .var i => smV fun ℓ h => ofO (getL ℓ i) h
  | .glob x => smV fun _ h => ofO (C.gl x) h
  | .non => smV fun _ h => .ok .non h
  | .bl b => smV fun _ h => .ok (.bl b) h
  | .int i => smV fun _ h => .ok (.int i) h
  | .str x => smV fun _ h => .ok (.str x) h
  | .tup es => smV fun ℓ h => (evs C es ℓ h).bind fun ws h => chk (decide (ws.length ≤ sizeLine)) (.ok (.tup ws) h)
  | .lst es => smL fun ℓ h => (evs C es ℓ h).bind fun ws h => chk (decide (ws.length ≤ sizeLine)) (.ok ws h)
  | .dct kvs => smV fun ℓ h => (evd C kvs ℓ h).bind fun kvs h => chk (decide (kvs.length ≤ 15)) (alloc (.dct (mergeW [] kvs)) h)
  | .lrep a n => smL fun ℓ h => ((ev C a).l ℓ h).bind fun ws h => ((ev C n).v ℓ h).bind fun y h => match y with
    | .int k => chk (decide (-(2 ^ 63) ≤ k ∧ k < 2 ^ 63) && decide (ws.length * k.toNat ≤ sizeLine)) (.ok (List.replicate k.toNat ws).flatten h)
    | _ => .stuck
  | .lcat a b => smL fun ℓ h => ((ev C a).opd ℓ h).bind fun x h => ((ev C b).opd ℓ h).bind fun y h => (lsqO h x).bind fun xs h => (lsqO h y).bind fun ys h => chk (decide (xs.length + ys.length ≤ sizeLine)) (.ok (xs ++ ys) h)
  | .lcut a lo hi => smL fun ℓ h => ((ev C a).opd ℓ h).bind fun x h => (evo C lo ℓ h).bind fun l h => (evo C hi ℓ h).bind fun u h => (lsqO h x).bind fun ws h => .ok (cutW ws l u) h
  | .bin op a b => smV fun ℓ h => ((ev C a).v ℓ h).bind fun x h => ((ev C b).v ℓ h).bind fun y h => binW op x y h
  | .neg a => smV fun ℓ h => ((ev C a).v ℓ h).bind fun x h => match x with | .int i => .ok (.int (-i)) h | _ => .stuck
  | .not a => { smV (fun ℓ h => ((ev C a).v ℓ h).bind fun w h => (truR h w).bind fun b h => .ok (.bl (!b)) h) with t := fun ℓ h => ((ev C a).t ℓ h).bind fun b h => .ok (!b) h }
  | .boolop op es => evb C op es
  | .cmp op a b => let v := fun ℓ h => ((ev C a).opd ℓ h).bind fun x h => ((ev C b).opd ℓ h).bind fun y h => cmpO op x y h
    { smV v with t := fun ℓ h => unBl (v ℓ h) }
  | .chain op1 op2 a b c => let v := fun ℓ h => ((ev C a).v ℓ h).bind fun x h => ((ev C b).v ℓ h).bind fun y h => (unBl (cmpW op1 x y h)).bind fun k h =>
      if k = true then ((ev C c).v ℓ h).bind fun z h => cmpW op2 y z h else .ok (.bl false) h
    { smV v with t := fun ℓ h => unBl (v ℓ h) }
  | .ife c a b => { smV (fun ℓ h => ((ev C c).t ℓ h).bind fun k h => if k = true then (ev C a).v ℓ h else (ev C b).v ℓ h) with
      t := fun ℓ h => ((ev C c).t ℓ h).bind fun k h => if k = true then (ev C a).t ℓ h else (ev C b).t ℓ h }
  | .call f es => smV fun ℓ h => (evs C es ℓ h).bind fun ws h => C.call f ws h
  | .isi a ts => smV fun ℓ h => ((ev C a).v ℓ h).bind fun w h => isiW ts w h
  | .blt f es => evk C f es
  | .sub a i => smV fun ℓ h => ((ev C a).opd ℓ h).bind fun x h => ((ev C i).v ℓ h).bind fun y h => match x with
    | .inl ws => match y with
      | .int i => ofO (atI ws i) h
      | _ => .stuck
    | .inr x => subW x y h
  | .slice a lo hi => smV fun ℓ h => ((ev C a).v ℓ h).bind fun x h => (evo C lo ℓ h).bind fun l h => (evo C hi ℓ h).bind fun u h => match x with
    | .str z => chk (decide (z.length ≤ sizeLine)) (.ok (.str (cutS z l u)) h)
    | .tup ws => .ok (.tup (cutW ws l u)) h
    | x => (lsqO h (.inr x)).bind fun ws h => .ok (.slst (cutW ws l u)) h
  | .frz a => smV fun ℓ h => ((ev C a).l ℓ h).bind fun ws h => .ok (.slst ws) h
  | .frd kvs => smV fun ℓ h => (evd C kvs ℓ h).bind fun kvs h => chk (decide (kvs.length ≤ 15)) (.ok (.sdct (mergeW [] kvs)) h)
  | .attr a f => smV fun ℓ h => ((ev C a).v ℓ h).bind fun x h => .stuck
  | .bm m a es => evm C m (ev C a) es
  | .lcomp elt tg src ifs own => smL fun ℓ h => (evi C src ℓ h).bind fun r h => lcLoop (fun w h => (evt C tg w (wipeL ℓ own) h).bind fun ℓ2 h => (evf C ifs ℓ2 h).bind fun k h =>
      if k = true then ((ev C elt).v ℓ2 h).bind fun y h => .ok (some y) h else .ok none h) r.2 0 r.1 h
def evs (C : Cn) : Mes → Lo → List O → R (List W)
  | .nil => fun _ h => .ok [] h
  | .cons e es => fun ℓ h => ((ev C e).v ℓ h).bind fun w h => (evs C es ℓ h).bind fun ws h => .ok (w :: ws) h
/-- the pairs of a display -/
def evd (C : Cn) : Mks → Lo → List O → R (List (Key × W))
  | .nil => fun _ h => .ok [] h
  | .cons k v r => fun ℓ h => ((ev C k).v ℓ h).bind fun x h => ((ev C v).v ℓ h).bind fun y h => match keyW x with
    | some k => (evd C r ℓ h).bind fun kvs h => .ok ((k, y) :: kvs) h
    | none => .stuck
/-- and, or -/
def evb (C : Cn) (op : BoolOp) : Mes → Sm
  | .nil => smV fun _ _ => .stuck
  | .cons e .nil => ev C e
  | .cons e (.cons e2 es) => { smV (fun ℓ h => ((ev C e).v ℓ h).bind fun w h => (truR h w).bind fun k h => match op with
      | .And => if k = true then (evb C op (.cons e2 es)).v ℓ h else .ok w h
      | .Or => if k = true then .ok w h else (evb C op (.cons e2 es)).v ℓ h) with
    t := fun ℓ h => ((ev C e).t ℓ h).bind fun k h => match op with
      | .And => if k = true then (evb C op (.cons e2 es)).t ℓ h else .ok false h
      | .Or => if k = true then .ok true h else (evb C op (.cons e2 es)).t ℓ h }
/-- a built-in function -/
def evk (C : Cn) (f : Str) : Mes → Sm
  | .cons e .nil =>
    if f = "len" then smV fun ℓ h => ((ev C e).opd ℓ h).bind fun x h => match x with
      | .inl ws => .ok (.int ws.length) h
      | .inr w => lenW w h
    else if f = "repr" then smV fun ℓ h => ((ev C e).opd ℓ h).bind fun x h => reprO h x
    else if f = "list" then smL fun ℓ h => (ev C e).l ℓ h
    else if f = "abs" then smV fun ℓ h => ((ev C e).v ℓ h).bind fun w h => bltV f [w] h
    else if f = "tuple" then smV fun ℓ h => ((ev C e).l ℓ h).bind fun ws h => .ok (.tup ws) h
    else smV fun ℓ h => ((ev C e).opd ℓ h).bind fun x h => (lsqO h x).bind fun ws h => bltL f ws h
  | .nil => smV fun ℓ h => bltV f [] h
  | .cons a (.cons b es) => smV fun ℓ h => ((ev C a).v ℓ h).bind fun x h => ((ev C b).v ℓ h).bind fun y h => (evs C es ℓ h).bind fun ws h => bltV f (x :: y :: ws) h
/-- a method of a built-in type -/
def evm (C : Cn) (m : Str) (s : Sm) : Mes → Sm
  | .cons e .nil =>
    if m = "join" then smV fun ℓ h => (s.v ℓ h).bind fun x h => match x with
      | .str a => ((ev C e).l ℓ h).bind fun ws h => joinR a ws h
      | _ => .stuck
    else smV fun ℓ h => (s.v ℓ h).bind fun x h => chk (isLst h x) (((ev C e).v ℓ h).bind fun w h => bmV m x [w] h)
  | .nil => smV fun ℓ h => (s.v ℓ h).bind fun x h => bmV m x [] h
  | .cons a (.cons b es) => smV fun ℓ h => (s.v ℓ h).bind fun x h => ((ev C a).v ℓ h).bind fun y h => ((ev C b).v ℓ h).bind fun z h => (evs C es ℓ h).bind fun ws h => bmV m x (y :: z :: ws) h
def evo (C : Cn) : Mo → Lo → List O → R (Option Int)
  | .none => fun _ h => .ok none h
  | .some e => fun ℓ h => ((ev C e).v ℓ h).bind fun w h => match w with
    | .int i => .ok (some i) h
    | _ => .stuck
def evf (C : Cn) : Mo → Lo → List O → R Bool
  | .none => fun _ h => .ok true h
  | .some e => fun ℓ h => (ev C e).t ℓ h
def evt (C : Cn) : Mt → Tg
  | .name i => fun w ℓ h => .ok (ℓ.set i (some w)) h
  | .tup ts => fun w ℓ h => match seqW h w with
    | some ws => evts C ts ws ℓ h
    | none => .stuck
  | .sub a i => fun w ℓ h => ((ev C a).v ℓ h).bind fun x h => ((ev C i).v ℓ h).bind fun y h => (setSub x y w h).bind fun _ h => .ok ℓ h
def evts (C : Cn) : Mts → Tgs
  | .nil => fun ws ℓ h => match ws with
    | [] => .ok ℓ h
    | _ => .stuck
  | .cons t ts => fun ws ℓ h => match ws with
    | w :: ws => (noX (evt C t w ℓ h)).bind fun ℓ h => evts C ts ws ℓ h
    | [] => .stuck
def evi (C : Cn) : Mi → Lo → List O → R (List W × Gd)
  | .val e => fun ℓ h => ((ev C e).opd ℓ h).bind fun x h => seqO true h x
  | .range es => fun ℓ h => (evs C es ℓ h).bind fun ws h => rngM ws h
  | .zip a b => fun ℓ h => ((ev C a).opd ℓ h).bind fun x h => ((ev C b).opd ℓ h).bind fun y h => chk (tupO x == tupO y) ((seqO false h x).bind fun xs h => (seqO false h y).bind fun ys h => .ok (zipW xs.1 ys.1, xs.2 ++ ys.2) h)
  | .enum a => fun ℓ h => ((ev C a).opd ℓ h).bind fun x h => chk (!tupO x) ((seqO false h x).bind fun xs h => .ok (enumW 0 xs.1, xs.2) h)
end
end MP
set_option maxRecDepth 100000
set_option maxHeartbeats 4000000
namespace MP
open PySem PySem.Spec PyProof.Rows L2

/-! ### the program at hand -/
structure Pg where
  P : Program
  w : World
  K : PySem.W.Frag
  mg : Str → Option Value
  base : Heap
  /-- where the classes stand -/
  cls : Str → Option Addr
  /-- the module's own objects, numbered first in the small heap -/
  i0 : List Addr

/-- a list that is never written: of the module's own text, or known to the object -/
def StL (K : PySem.W.Frag) (H : Hp) (a : Addr) (xs : List V) : Prop := (∃ o, H a = some (.frz o (.lst xs))) ∨
  ∃ (o : Obj) (its : Array Value) (n : Nat), K.lookup a = some o ∧ o = { cls := .type "list", data := .seq its n } ∧ its.size ≤ sizeLine ∧ Vals xs its.toList
theorem StL.sql {K : PySem.W.Frag} {H : Hp} {a : Addr} {xs : List V} (h : StL K H a xs) : SqL K H a xs := by
  rcases h with ⟨o, h⟩ | ⟨o, its, n, h1, rfl, h2, h3⟩
  · exact .inl (.inr ⟨o, h⟩)
  · exact .inr ⟨_, its, n, h1, rfl, rfl, rfl, h2, h3⟩
/-- a list that may stand in a sum -/
def CatL (K : PySem.W.Frag) (H : Hp) (a : Addr) (xs : List V) : Prop := H a = some (.lst xs) ∨ StL K H a xs
/-! ### values and their images -/
mutual
inductive VR (G : Pg) (H : Hp) (ι : List Addr) : W → V → Prop
  | non : VR G H ι .non .non
  | bl (b : Bool) : VR G H ι (.bl b) (.bl b)
  | int (i : Int) : VR G H ι (.int i) (.int i)
  | str (x : Str) : VR G H ι (.str x) (.str x)
  | tup {a : Addr} {vs : List V} {ws : List W} : SqT G.K H a vs → VRs G H ι ws vs → VR G H ι (.tup ws) (.ref a)
  | slst {a : Addr} {vs : List V} {ws : List W} : StL G.K H a vs → VRs G H ι ws vs → VR G H ι (.slst ws) (.ref a)
  | sdct {a : Addr} {o : Obj} {m : List (Key × V)} {kvs : List (Key × W)} : H a = some (.frz o (.dK m)) → VKs G H ι kvs m → VR G H ι (.sdct kvs) (.ref a)
  | ref {n : Nat} {a : Addr} : ι[n]? = some a → VR G H ι (.ref n) (.ref a)
inductive VRs (G : Pg) (H : Hp) (ι : List Addr) : List W → List V → Prop
  | nil : VRs G H ι [] []
  | cons {w : W} {v : V} {ws : List W} {vs : List V} : VR G H ι w v → VRs G H ι ws vs → VRs G H ι (w :: ws) (v :: vs)
inductive VKs (G : Pg) (H : Hp) (ι : List Addr) : List (Key × W) → List (Key × V) → Prop
  | nil : VKs G H ι [] []
  | cons {k : Key} {w : W} {v : V} {ws : List (Key × W)} {vs : List (Key × V)} : VR G H ι w v → VKs G H ι ws vs → VKs G H ι ((k, w) :: ws) ((k, v) :: vs)
end
inductive FR {κ : Type} (G : Pg) (H : Hp) (ι : List Addr) : List (κ × W) → List (κ × V) → Prop
  | nil : FR G H ι [] []
  | cons {x : κ} {w : W} {v : V} {ws : List (κ × W)} {vs : List (κ × V)} : VR G H ι w v → FR G H ι ws vs → FR G H ι ((x, w) :: ws) ((x, v) :: vs)

/-- what is never written -/
def Fixed : HO → Prop
  | .tup _ => True
  | .frz _ _ => True
  | .ext _ => True
  | _ => False
/-- where the table of modules is held: a dict, known as such -/
def SmT (K : PySem.W.Frag) (H : Hp) : Prop := (∃ o u es n, H sysModules = some (.frz o u) ∧ o.data = .dict es n) ∨ ∃ o es n, K.lookup sysModules = some o ∧ o.data = .dict es n
def OR (G : Pg) (H : Hp) (ι : List Addr) (a : Addr) : O → Prop
  | .lst ws => ∃ vs, H a = some (.lst vs) ∧ VRs G H ι ws vs
  | .dct kvs => ∃ m, H a = some (.dK m) ∧ FR G H ι kvs m
  | .ins c fs => ∃ C dx vs, G.cls c = some C ∧ H a = some (.ins C dx vs) ∧ FR G H ι fs vs
structure Rel (G : Pg) (h : List O) (ι : List Addr) (H : Hp) : Prop where
  len : ι.length = h.length
  obj : ∀ (n : Nat) (o : O) (a : Addr), h[n]? = some o → ι[n]? = some a → OR G H ι a o
  inj : ∀ (m n : Nat) (a : Addr), ι[m]? = some a → ι[n]? = some a → m = n
  pre : ∃ r, ι = G.i0 ++ r
  sm : SmT G.K H
/-- from one state to a later one -/
structure Step (ι : List Addr) (H : Hp) (ι' : List Addr) (H' : Hp) : Prop where
  ext : ∃ r, ι' = ι ++ r ∧ ∀ a ∈ r, H a = none
  keep : ∀ a o, H a = some o → a ∉ ι → H' a = some o
  there : ∀ a, H a ≠ none → H' a ≠ none
  fix : ∀ a u, H a = some u → Fixed u → H' a = some u
section
variable {G : Pg} {ι ι' ι1 ι2 : List Addr} {H H' H1 H2 : Hp} {h : List O}
theorem Step.refl : Step ι H ι H := ⟨⟨[], by simp, fun _ h => nomatch h⟩, fun _ _ e _ => e, fun _ e => e, fun _ _ e _ => e⟩
theorem Step.trans (s : Step ι H ι1 H1) (t : Step ι1 H1 ι2 H2) : Step ι H ι2 H2 := by
  obtain ⟨r, er, hr⟩ := s.ext
  obtain ⟨q, eq, hq⟩ := t.ext
  refine ⟨⟨r ++ q, by rw [eq, er, List.append_assoc], fun a ha => ?_⟩, fun a o e na => ?_, fun a e => t.there a (s.there a e), fun a u e f => t.fix a u (s.fix a u e f) f⟩
  · rcases List.mem_append.mp ha with ha | ha
    · exact hr a ha
    · cases e : H a with
      | none => rfl
      | some o => exact absurd (hq a ha) (s.there a (by rw [e]; exact fun z => nomatch z))
  · refine t.keep a o (s.keep a o e na) fun hm => ?_
    rw [er] at hm
    rcases List.mem_append.mp hm with hm | hm
    · exact na hm
    · rw [hr a hm] at e; cases e
theorem Step.get (s : Step ι H ι' H') {n : Nat} {a : Addr} (e : ι[n]? = some a) : ι'[n]? = some a := by
  obtain ⟨r, er, _⟩ := s.ext
  rw [er, List.getElem?_append_left (List.getElem?_eq_some_iff.mp e).1]
  exact e
theorem Step.tups (s : Step ι H ι' H') : ∀ a xs, Rd H a (.tup xs) → Rd H' a (.tup xs) := fun a xs e => by
  rcases e with e | ⟨o, e⟩
  · exact .inl (s.fix a _ e trivial)
  · exact .inr ⟨o, s.fix a _ e trivial⟩
theorem Step.frzs (s : Step ι H ι' H') : ∀ a o u, H a = some (.frz o u) → H' a = some (.frz o u) := fun a o u e => s.fix a _ e trivial
theorem Step.sqT (s : Step ι H ι' H') {K : PySem.W.Frag} {a : Addr} {xs : List V} (h : SqT K H a xs) : SqT K H' a xs := by
  rcases h with h | h
  · exact .inl (s.tups a xs h)
  · exact .inr h
theorem Step.stL (s : Step ι H ι' H') {K : PySem.W.Frag} {a : Addr} {xs : List V} (h : StL K H a xs) : StL K H' a xs := by
  rcases h with ⟨o, h⟩ | h
  · exact .inl ⟨o, s.frzs a o _ h⟩
  · exact .inr h
/-- what images lean on stays -/
structure Mon (ι : List Addr) (H : Hp) (ι' : List Addr) (H' : Hp) : Prop where
  get : ∀ (n : Nat) (a : Addr), ι[n]? = some a → ι'[n]? = some a
  fix : ∀ a u, H a = some u → Fixed u → H' a = some u
theorem Mon.tups (s : Mon ι H ι' H') : ∀ a xs, Rd H a (.tup xs) → Rd H' a (.tup xs) := fun a xs e => by
  rcases e with e | ⟨o, e⟩
  · exact .inl (s.fix a _ e trivial)
  · exact .inr ⟨o, s.fix a _ e trivial⟩
theorem Mon.frzs (s : Mon ι H ι' H') : ∀ a o u, H a = some (.frz o u) → H' a = some (.frz o u) := fun a o u e => s.fix a _ e trivial
theorem SmT.fix {K : PySem.W.Frag} {H H' : Hp} (h : SmT K H) (f : ∀ a u, H a = some u → Fixed u → H' a = some u) : SmT K H' := by
  rcases h with ⟨o, u, es, n, e, q⟩ | h
  · exact .inl ⟨o, u, es, n, f _ _ e trivial, q⟩
  · exact .inr h
theorem Step.mon (s : Step ι H ι' H') : Mon ι H ι' H' := ⟨fun _ _ e => s.get e, s.fix⟩
mutual
theorem VR.mon (s : Mon ι H ι' H') : ∀ {w : W} {v : V}, VR G H ι w v → VR G H' ι' w v
  | _, _, .non => .non
  | _, _, .bl b => .bl b
  | _, _, .int i => .int i
  | _, _, .str x => .str x
  | _, _, .tup h r => .tup (by
      rcases h with h | h
      · exact .inl (s.tups _ _ h)
      · exact .inr h) (VRs.mon s r)
  | _, _, .slst h r => .slst (by
      rcases h with ⟨o, h⟩ | h
      · exact .inl ⟨o, s.frzs _ o _ h⟩
      · exact .inr h) (VRs.mon s r)
  | _, _, .sdct h r => .sdct (s.frzs _ _ _ h) (VKs.mon s r)
  | _, _, .ref e => .ref (s.get _ _ e)
theorem VRs.mon (s : Mon ι H ι' H') : ∀ {ws : List W} {vs : List V}, VRs G H ι ws vs → VRs G H' ι' ws vs
  | _, _, .nil => .nil
  | _, _, .cons r t => .cons (VR.mon s r) (VRs.mon s t)
theorem VKs.mon (s : Mon ι H ι' H') : ∀ {ws : List (Key × W)} {vs : List (Key × V)}, VKs G H ι ws vs → VKs G H' ι' ws vs
  | _, _, .nil => .nil
  | _, _, .cons r t => .cons (VR.mon s r) (VKs.mon s t)
end
mutual
theorem VR.mono (s : Step ι H ι' H') : ∀ {w : W} {v : V}, VR G H ι w v → VR G H' ι' w v
  | _, _, .non => .non
  | _, _, .bl b => .bl b
  | _, _, .int i => .int i
  | _, _, .str x => .str x
  | _, _, .tup h r => .tup (s.sqT h) (VRs.mono s r)
  | _, _, .slst h r => .slst (s.stL h) (VRs.mono s r)
  | _, _, .sdct h r => .sdct (s.frzs _ _ _ h) (VKs.mono s r)
  | _, _, .ref e => .ref (s.get e)
theorem VRs.mono (s : Step ι H ι' H') : ∀ {ws : List W} {vs : List V}, VRs G H ι ws vs → VRs G H' ι' ws vs
  | _, _, .nil => .nil
  | _, _, .cons r t => .cons (VR.mono s r) (VRs.mono s t)
theorem VKs.mono (s : Step ι H ι' H') : ∀ {ws : List (Key × W)} {vs : List (Key × V)}, VKs G H ι ws vs → VKs G H' ι' ws vs
  | _, _, .nil => .nil
  | _, _, .cons r t => .cons (VR.mono s r) (VKs.mono s t)
end
theorem FR.mono {κ : Type} (s : Step ι H ι' H') : ∀ {ws : List (κ × W)} {vs : List (κ × V)}, FR G H ι ws vs → FR G H' ι' ws vs
  | _, _, .nil => .nil
  | _, _, .cons r t => .cons (r.mono s) (FR.mono s t)
theorem VKs.fr : ∀ {ws : List (Key × W)} {vs : List (Key × V)}, VKs G H ι ws vs → FR G H ι ws vs
  | _, _, .nil => .nil
  | _, _, .cons r t => .cons r (VKs.fr t)
theorem FR.vk : ∀ {ws : List (Key × W)} {vs : List (Key × V)}, FR G H ι ws vs → VKs G H ι ws vs
  | _, _, .nil => .nil
  | _, _, .cons r t => .cons r (FR.vk t)
theorem VRs.length : ∀ {ws : List W} {vs : List V}, VRs G H ι ws vs → ws.length = vs.length
  | _, _, .nil => rfl
  | _, _, .cons _ t => by rw [List.length_cons, List.length_cons, VRs.length t]
theorem VRs.append : ∀ {ws ws' : List W} {vs vs' : List V}, VRs G H ι ws vs → VRs G H ι ws' vs' → VRs G H ι (ws ++ ws') (vs ++ vs')
  | _, _, _, _, .nil, q => q
  | _, _, _, _, .cons r t, q => .cons r (VRs.append t q)
theorem VRs.get : ∀ {ws : List W} {vs : List V} {i : Nat} {w : W}, VRs G H ι ws vs → ws[i]? = some w → ∃ v, vs[i]? = some v ∧ VR G H ι w v
  | _, _, _, _, .nil, e => by simp at e
  | _, _, 0, _, .cons r _, e => by
    simp at e
    subst e
    exact ⟨_, rfl, r⟩
  | _, _, i + 1, _, .cons _ t, e => by
    obtain ⟨v, h1, h2⟩ := VRs.get (i := i) t (by simpa using e)
    exact ⟨v, by simpa using h1, h2⟩
theorem VRs.getV : ∀ {ws : List W} {vs : List V} {i : Nat} {v : V}, VRs G H ι ws vs → vs[i]? = some v → ∃ w, ws[i]? = some w ∧ VR G H ι w v
  | _, _, _, _, .nil, e => by simp at e
  | _, _, 0, _, .cons r _, e => by
    simp at e
    subst e
    exact ⟨_, rfl, r⟩
  | _, _, i + 1, _, .cons _ t, e => by
    obtain ⟨v, h1, h2⟩ := VRs.getV (i := i) t (by simpa using e)
    exact ⟨v, by simpa using h1, h2⟩
theorem VRs.set {w : W} {v : V} (r : VR G H ι w v) : ∀ {ws : List W} {vs : List V} (i : Nat), VRs G H ι ws vs → VRs G H ι (ws.set i w) (vs.set i v)
  | _, _, _, .nil => .nil
  | _, _, 0, .cons _ t => .cons r t
  | _, _, i + 1, .cons q t => .cons q (VRs.set r i t)
theorem VRs.take : ∀ {ws : List W} {vs : List V} (n : Nat), VRs G H ι ws vs → VRs G H ι (ws.take n) (vs.take n)
  | _, _, 0, _ => by simp; exact .nil
  | _, _, _ + 1, .nil => .nil
  | _, _, n + 1, .cons r t => .cons r (VRs.take n t)
theorem VRs.drop : ∀ {ws : List W} {vs : List V} (n : Nat), VRs G H ι ws vs → VRs G H ι (ws.drop n) (vs.drop n)
  | _, _, 0, r => r
  | _, _, _ + 1, .nil => .nil
  | _, _, n + 1, .cons _ t => VRs.drop n t
theorem VRs.cut {ws : List W} {vs : List V} (lo hi : Option Int) (r : VRs G H ι ws vs) : VRs G H ι (cutW ws lo hi) (cutV vs lo hi) := by
  unfold cutW cutV
  rw [r.length]
  exact (r.drop _).take _
theorem OR.step (s : Step ι H ι' H') {a : Addr} {o : O} (hne : H' a = H a) (r : OR G H ι a o) : OR G H' ι' a o := by
  cases o with
  | lst ws =>
    obtain ⟨vs, h1, h2⟩ := r
    exact ⟨vs, hne.trans h1, h2.mono s⟩
  | dct kvs =>
    obtain ⟨vs, h1, h2⟩ := r
    exact ⟨vs, hne.trans h1, h2.mono s⟩
  | ins c fs =>
    obtain ⟨C, dx, vs, h0, h1, h2⟩ := r
    exact ⟨C, dx, vs, h0, hne.trans h1, h2.mono s⟩
/-- a new object is tracked -/
theorem Step.new {p : Addr} {o : HO} (hp : H p = none) : Step ι H ι (upd H p o) := by
  refine ⟨⟨[], by simp, fun _ h => nomatch h⟩, fun a u e _ => ?_, fun a e => ?_, fun a u e _ => ?_⟩
  · rw [upd_ne (ne_of_none e hp)]; exact e
  · by_cases ha : a = p
    · subst ha; rw [upd_same]; exact fun z => nomatch z
    · rw [upd_ne ha]; exact e
  · rw [upd_ne (ne_of_none e hp)]; exact e
/-- a tracked object is written -/
theorem Step.set {a : Addr} {o u : HO} (ha : a ∈ ι) (e0 : H a = some u) (hu : ¬ Fixed u) : Step ι H ι (upd H a o) := by
  refine ⟨⟨[], by simp, fun _ h => nomatch h⟩, fun b q e nb => ?_, fun b e => ?_, fun b x e f => ?_⟩
  · rw [upd_ne (fun z => nb (by rw [z]; exact ha))]; exact e
  · by_cases hb : b = a
    · subst hb; rw [upd_same]; exact fun z => nomatch z
    · rw [upd_ne hb]; exact e
  · rw [upd_ne (fun z => by subst z; rw [e0] at e; cases e; exact hu f)]; exact e
theorem Rel.get (r : Rel G h ι H) {n : Nat} {o : O} (e : h[n]? = some o) : ∃ a, ι[n]? = some a ∧ OR G H ι a o := by
  have hl : n < ι.length := by rw [r.len]; exact (List.getElem?_eq_some_iff.mp e).1
  exact ⟨ι[n], by simp [hl], r.obj n o _ e (by simp [hl])⟩
theorem Rel.sql (r : Rel G h ι H) {n : Nat} {a : Addr} {ws : List W} (e : h[n]? = some (.lst ws)) (ea : ι[n]? = some a) : ∃ vs, SqL G.K H a vs ∧ VRs G H ι ws vs := by
  obtain ⟨vs, h1, h2⟩ := r.obj n _ a e ea
  exact ⟨vs, .of h1, h2⟩
theorem OR.there {a : Addr} {o : O} (q : OR G H ι a o) : H a ≠ none := by
  cases o with
  | lst ws => obtain ⟨vs, e, _⟩ := q; rw [e]; exact fun z => nomatch z
  | dct kvs => obtain ⟨vs, e, _⟩ := q; rw [e]; exact fun z => nomatch z
  | ins c fs => obtain ⟨C, dx, vs, h0, e, h2⟩ := q; rw [e]; exact fun z => nomatch z
theorem Rel.there (r : Rel G h ι H) {a : Addr} (ha : a ∈ ι) : H a ≠ none := by
  obtain ⟨n, e⟩ := List.mem_iff_getElem?.mp ha
  have hl : n < h.length := by rw [← r.len]; exact (List.getElem?_eq_some_iff.mp e).1
  exact (r.obj n h[n] a (by simp [hl]) e).there
theorem Rel.fresh (r : Rel G h ι H) {p : Addr} (hp : H p = none) : p ∉ ι := fun hm => r.there hm hp
/-- objects apart from the small heap change -/
theorem Rel.step (r : Rel G h ι H) (s : Step ι H ι H') (hne : ∀ a ∈ ι, H' a = H a) : Rel G h ι H' :=
  ⟨r.len, fun n o a e ea => (r.obj n o a e ea).step s (hne a (List.mem_of_getElem? ea)), r.inj, r.pre, r.sm.fix s.fix⟩
/-- a new list comes into the small heap -/
theorem Rel.alloc (r : Rel G h ι H) {a : Addr} {o : O} (na : a ∉ ι) (q : OR G H (ι ++ [a]) a o) (s : Step ι H ι H) : Rel G (h ++ [o]) (ι ++ [a]) H := by
  have mn : Mon ι H (ι ++ [a]) H := ⟨fun n b e => by rw [List.getElem?_append_left (List.getElem?_eq_some_iff.mp e).1]; exact e, fun _ _ q _ => q⟩
  have mono : ∀ {w v}, VR G H ι w v → VR G H (ι ++ [a]) w v := fun hv => hv.mon mn
  have monos : ∀ {ws vs}, VRs G H ι ws vs → VRs G H (ι ++ [a]) ws vs := fun hv => VRs.mon mn hv
  have monof : ∀ {κ : Type} {ws : List (κ × W)} {vs : List (κ × V)}, FR G H ι ws vs → FR G H (ι ++ [a]) ws vs := by
    intro κ ws vs hv
    induction hv with
    | nil => exact .nil
    | cons r _ ih => exact .cons (mono r) ih
  have hl := r.len
  have low : ∀ {n : Nat} {b : Addr}, (ι ++ [a])[n]? = some b → (n < h.length ∧ ι[n]? = some b) ∨ (n = h.length ∧ b = a) := fun {n b} e => by
    by_cases hn : n < ι.length
    · rw [List.getElem?_append_left hn] at e
      exact .inl ⟨by omega, e⟩
    · rw [List.getElem?_append_right (by omega)] at e
      have hb := (List.getElem?_eq_some_iff.mp e).1
      simp at hb
      have e0 : n = h.length := by omega
      subst e0
      rw [hl] at e
      simp at e
      exact .inr ⟨rfl, e.symm⟩
  refine ⟨by simp [hl], fun n u b e eb => ?_, fun m n b em en => ?_, ?_, r.sm⟩
  · rcases low eb with ⟨hn, eb2⟩ | ⟨hn, eb2⟩
    · rw [List.getElem?_append_left hn] at e
      have z := r.obj n u b e eb2
      cases u with
      | lst ws => obtain ⟨vs, h1, h2⟩ := z; exact ⟨vs, h1, monos h2⟩
      | dct kvs => obtain ⟨vs, h1, h2⟩ := z; exact ⟨vs, h1, monof h2⟩
      | ins c fs => obtain ⟨C, dx, vs, h0, h1, h2⟩ := z; exact ⟨C, dx, vs, h0, h1, monof h2⟩
    · subst hn; subst eb2
      rw [List.getElem?_append_right (Nat.le_refl _)] at e
      simp at e
      subst e
      exact q
  · rcases low em with ⟨hm, em2⟩ | ⟨hm, em2⟩
    · rcases low en with ⟨hn, en2⟩ | ⟨hn, en2⟩
      · exact r.inj m n b em2 en2
      · subst en2
        exact absurd (List.mem_of_getElem? em2) na
    · rcases low en with ⟨hn, en2⟩ | ⟨hn, en2⟩
      · subst em2
        exact absurd (List.mem_of_getElem? en2) na
      · omega
  · obtain ⟨q, hq⟩ := r.pre
    exact ⟨q ++ [a], by rw [hq, List.append_assoc]⟩
/-- an object of the small heap is written -/
theorem Rel.set (r : Rel G h ι H) {n : Nat} {a : Addr} {o o' : O} {u u' : HO} (e : h[n]? = some o) (ea : ι[n]? = some a) (e0 : H a = some u) (hu : ¬ Fixed u)
    (q : OR G (upd H a u') ι a o') : Rel G (h.set n o') ι (upd H a u') ∧ Step ι H ι (upd H a u') := by
  have s : Step ι H ι (upd H a u') := Step.set (List.mem_of_getElem? ea) e0 hu
  have hn := (List.getElem?_eq_some_iff.mp e).1
  refine ⟨⟨by rw [List.length_set]; exact r.len, fun m p b em eb => ?_, r.inj, r.pre, r.sm.fix s.fix⟩, s⟩
  by_cases hm : n = m
  · subst hm
    rw [List.getElem?_set_self hn] at em
    cases em
    rw [ea] at eb; cases eb
    exact q
  · rw [List.getElem?_set_ne hm] at em
    have hb : b ≠ a := fun z => by
      subst z
      exact hm (r.inj n m b ea eb)
    exact (r.obj m p b em eb).step s (upd_ne hb)
end

theorem Rel.new {G : Pg} {ι : List Addr} {H : Hp} {h : List O} {p : Addr} {o : HO} (r : Rel G h ι H) (hp : H p = none) : Rel G h ι (upd H p o) :=
  r.step (Step.new hp) fun a ha => upd_ne fun z => r.there ha (by rw [z]; exact hp)
theorem Step.back {ι ι' : List Addr} {H H' : Hp} (s : Step ι H ι' H') {p : Addr} (hp : H' p = none) : H p = none := by
  cases e : H p with
  | none => rfl
  | some o => exact absurd hp (s.there p (by rw [e]; exact fun z => nomatch z))

/-- an object apart from the small heap, new since then, is written -/
theorem Step.apart {ι ι' : List Addr} {H H' : Hp} (s : Step ι H ι' H') {D : Addr} {o u : HO} (h0 : H D = none) (e : H' D = some u) (hu : ¬ Fixed u) : Step ι H ι' (upd H' D o) ∧ Mon ι' H' ι' (upd H' D o) := by
  have f : ∀ a x, H' a = some x → Fixed x → upd H' D o a = some x := fun a x q z => by
    rw [upd_ne (fun w => by subst w; rw [e] at q; cases q; exact hu z)]; exact q
  refine ⟨⟨s.ext, fun a q e1 na => ?_, fun a e1 => ?_, fun a x q z => f a x (s.fix a x q z) z⟩, ⟨fun _ _ q => q, f⟩⟩
  · rw [upd_ne (ne_of_none e1 h0)]; exact s.keep a q e1 na
  · by_cases ha : a = D
    · subst ha; rw [upd_same]; exact fun z => nomatch z
    · rw [upd_ne ha]; exact s.there a e1
theorem Rel.mon {G : Pg} {ι : List Addr} {H H' : Hp} {h : List O} (r : Rel G h ι H) (m : Mon ι H ι H') (hne : ∀ a ∈ ι, H' a = H a) : Rel G h ι H' := by
  have fm : ∀ {κ : Type} {ws : List (κ × W)} {vs : List (κ × V)}, FR G H ι ws vs → FR G H' ι ws vs := by
    intro κ ws vs hv
    induction hv with
    | nil => exact .nil
    | cons r _ ih => exact .cons (r.mon m) ih
  refine ⟨r.len, fun n o a e ea => ?_, r.inj, r.pre, r.sm.fix m.fix⟩
  have q := r.obj n o a e ea
  have z := hne a (List.mem_of_getElem? ea)
  cases o with
  | lst ws => obtain ⟨vs, h1, h2⟩ := q; exact ⟨vs, z.trans h1, h2.mon m⟩
  | dct kvs => obtain ⟨vs, h1, h2⟩ := q; exact ⟨vs, z.trans h1, fm h2⟩
  | ins c fs => obtain ⟨C, dx, vs, h0, h1, h2⟩ := q; exact ⟨C, dx, vs, h0, z.trans h1, fm h2⟩

/-! ### slots -/
structure LR (G : Pg) (H : Hp) (ι : List Addr) (ℓ : Lo) (σ : L2.St) : Prop where
  len : ℓ.length = σ.length
  at_ : ∀ i w, getL ℓ i = some w → ∃ v, σ[i]? = some (some v) ∧ VR G H ι w v
section
variable {G : Pg} {ι ι' : List Addr} {H H' : Hp} {ℓ : Lo} {σ : L2.St}
theorem LR.mono (s : Step ι H ι' H') (r : LR G H ι ℓ σ) : LR G H' ι' ℓ σ :=
  ⟨r.len, fun i w e => by obtain ⟨v, h1, h2⟩ := r.at_ i w e; exact ⟨v, h1, h2.mono s⟩⟩
theorem getL_set_self {i : Nat} {w u : W} (h : getL (ℓ.set i (some w)) i = some u) : u = w ∧ i < ℓ.length := by
  unfold getL at h
  by_cases hi : i < ℓ.length
  · rw [List.getElem?_set_self hi] at h
    simp at h
    exact ⟨h.symm, hi⟩
  · rw [List.getElem?_eq_none (by simp; omega)] at h
    simp at h
theorem getL_set_ne {i j : Nat} {o : Option W} (h : i ≠ j) : getL (ℓ.set i o) j = getL ℓ j := by
  unfold getL
  rw [List.getElem?_set_ne h]
theorem LR.set (r : LR G H ι ℓ σ) {i : Nat} {w : W} {v : V} (q : VR G H ι w v) : LR G H ι (ℓ.set i (some w)) (σ.set i (some v)) := by
  refine ⟨by rw [List.length_set, List.length_set]; exact r.len, fun j u e => ?_⟩
  by_cases hj : i = j
  · subst hj
    obtain ⟨rfl, hi⟩ := getL_set_self e
    exact ⟨v, by rw [List.getElem?_set_self (by rw [← r.len]; exact hi)], q⟩
  · rw [getL_set_ne hj] at e
    rw [List.getElem?_set_ne hj]
    exact r.at_ j u e
theorem LR.clear (r : LR G H ι ℓ σ) (i : Nat) : LR G H ι (ℓ.set i none) (σ.set i none) := by
  refine ⟨by rw [List.length_set, List.length_set]; exact r.len, fun j u e => ?_⟩
  by_cases hj : i = j
  · subst hj
    unfold getL at e
    by_cases hi : i < ℓ.length
    · rw [List.getElem?_set_self hi] at e; cases e
    · rw [List.getElem?_eq_none (by simp; omega)] at e; cases e
  · rw [getL_set_ne hj] at e
    rw [List.getElem?_set_ne hj]
    exact r.at_ j u e
theorem LR.wipe (r : LR G H ι ℓ σ) : ∀ vs : List Nat, LR G H ι (wipeL ℓ vs) (wipe σ vs)
  | [] => r
  | v :: vs => (LR.wipe r vs).clear v
end

/-! ### ends of a run -/
def XR (G : Pg) (H : Hp) (ι : List Addr) (x : Exn) (cls : Value) (d : Option Addr) : Prop :=
  ∃ C, G.cls x.cls = some C ∧ cls = .ref C ∧ ((x.fs = [] ∧ d = none) ∨ ∃ dd vs, d = some dd ∧ H dd = some (.xd vs) ∧ FR G H ι x.fs vs ∧ dd ∉ ι)
def Post {α : Type} (G : Pg) (Wx : WX) (σ : L2.St) (ι : List Addr) (H : Hp) (r : R α) (k : α → List O → List Addr → Hp → Prop) : Prop := match r with
  | .ok a h' => ∀ ι' H', Step ι H ι' H' → Rel G h' ι' H' → k a h' ι' H'
  | .exc x h' => ∀ ι' H' cls d, Step ι H ι' H' → Rel G h' ι' H' → XR G H' ι' x cls d → Wx cls d σ H'
  | .stuck => False
section
variable {α β : Type} {G : Pg} {Wx : WX} {σ : L2.St} {ι ι1 : List Addr} {H H1 : Hp}
theorem Post.imp {r : R α} {k k' : α → List O → List Addr → Hp → Prop} (p : Post G Wx σ ι H r k) (f : ∀ a h' ι' H', Step ι H ι' H' → Rel G h' ι' H' → k a h' ι' H' → k' a h' ι' H') : Post G Wx σ ι H r k' := by
  cases r with
  | ok a h' => exact fun ι' H' s q => f a h' ι' H' s q (p ι' H' s q)
  | exc x h' => exact p
  | stuck => exact p
theorem Post.later {r : R α} {k : α → List O → List Addr → Hp → Prop} (p : Post G Wx σ ι H r k) (s : Step ι H ι1 H1) : Post G Wx σ ι1 H1 r k := by
  cases r with
  | ok a h' => exact fun ι' H' t q => p ι' H' (s.trans t) q
  | exc x h' => exact fun ι' H' cls d t q => p ι' H' cls d (s.trans t) q
  | stuck => exact p
theorem Post.bind {r : R α} {f : α → List O → R β} {k : β → List O → List Addr → Hp → Prop} (p : Post G Wx σ ι H (r.bind f) k) : Post G Wx σ ι H r (fun a h1 ι1 H1 => Post G Wx σ ι1 H1 (f a h1) k) := by
  cases r with
  | ok a h' =>
    intro ι' H' s q
    have p' : Post G Wx σ ι H (f a h') k := p
    exact p'.later s
  | exc x h' => exact p
  | stuck => exact p
theorem Post.bind0 {r : R α} {f : α → List O → R β} {k : β → List O → List Addr → Hp → Prop} (p : Post G Wx σ ι H (r.bind f) k) : Post G Wx σ ι H r (fun a h1 _ _ => Post G Wx σ ι H (f a h1) k) := by
  cases r with
  | ok a h' => exact fun _ _ _ _ => p
  | exc x h' => exact p
  | stuck => exact p
theorem Post.ok {a : α} {h : List O} {k : α → List O → List Addr → Hp → Prop} (p : Post G Wx σ ι H (R.ok a h) k) (q : Rel G h ι H) : k a h ι H := p ι H .refl q
theorem Post.chk {b : Bool} {r : R α} {k : α → List O → List Addr → Hp → Prop} (p : Post G Wx σ ι H (chk b r) k) : b = true ∧ Post G Wx σ ι H r k := by
  cases b with
  | true => exact ⟨rfl, p⟩
  | false => exact False.elim p
end

/-! ### readings by the interpreter -/
/-- a value -/
def tV (G : Pg) (Wx : WX) (m : Lo → List O → R W) : TE := fun σ H Q => ∃ ι h ℓ, Rel G h ι H ∧ LR G H ι ℓ σ ∧ Post G Wx σ ι H (m ℓ h) fun w _ ι' H' => ∀ v, VR G H' ι' w v → Q v H'
/-- a new list, or the very one that stands in the small heap -/
def tL (G : Pg) (Wx : WX) (m : Lo → List O → R (List W)) : TE := fun σ H Q => ∃ ι h ℓ, Rel G h ι H ∧ LR G H ι ℓ σ ∧
  Post G Wx σ ι H (m ℓ h) fun ws _ ι' H' => ∀ D vs, H D = none → D ∉ ι' → H' D = some (.lst vs) → VRs G H' ι' ws vs → Q (.ref D) H'
/-- a truth -/
def tT (G : Pg) (Wx : WX) (m : Lo → List O → R Bool) : TT := fun σ H Q => ∃ ι h ℓ, Rel G h ι H ∧ LR G H ι ℓ σ ∧ Post G Wx σ ι H (m ℓ h) fun b _ _ H' => Q b H'
/-- several values -/
def tA (G : Pg) (Wx : WX) (m : Lo → List O → R (List W)) : TA := fun σ H Q => ∃ ι h ℓ, Rel G h ι H ∧ LR G H ι ℓ σ ∧ Post G Wx σ ι H (m ℓ h) fun ws _ ι' H' => ∀ vs, VRs G H' ι' ws vs → Q vs H'
theorem PE.imp {X : Cx} {e : Expr} {t t' : TE} (h : PE X e t) (f : ∀ σ H Q, t' σ H Q → t σ H Q) : PE X e t' := ⟨fun pins s σ H Q I q => h.run pins s σ H Q I (f σ H Q q)⟩
theorem PT.imp {X : Cx} {e : Expr} {t t' : TT} (h : PT X e t) (f : ∀ σ H Q, t' σ H Q → t σ H Q) : PT X e t' := ⟨fun pins s σ H Q I q => h.run pins s σ H Q I (f σ H Q q)⟩
theorem PW.imp {X : Cx} {e : Expr} {t t' : TT} (h : PW X e t) (f : ∀ σ H Q, t' σ H Q → t σ H Q) : PW X e t' := ⟨fun wh pins s σ H Q I q => h.run wh pins s σ H Q I (f σ H Q q)⟩
theorem PA.imp {X : Cx} {es : List Expr} {t t' : TA} (h : PA X es t) (f : ∀ σ H Q, t' σ H Q → t σ H Q) : PA X es t' := ⟨fun pos pins s σ H Q I q => h.run pos pins s σ H Q I (f σ H Q q)⟩
theorem PS.imp {X : Cx} {e : Stmt} {t t' : TS} (h : PS X e t) (f : ∀ D σ H, t' D σ H → t D σ H) : PS X e t' := ⟨fun pins s σ H D I q => h.run pins s σ H D I (f D σ H q)⟩
theorem PSs.imp {X : Cx} {e : List Stmt} {t t' : TS} (h : PSs X e t) (f : ∀ D σ H, t' D σ H → t D σ H) : PSs X e t' := ⟨fun pins s σ H D I q => h.run pins s σ H D I (f D σ H q)⟩
theorem PI.imp {X : Cx} {tg e : Expr} {t t' : TI} (h : PI X tg e t) (f : ∀ σ H Q, t' σ H Q → t σ H Q) : PI X tg e t' := ⟨fun pins s σ H Q I q => h.run pins s σ H Q I (f σ H Q q)⟩
theorem PG.imp {X : Cx} {tg : Expr} {t t' : TG} (h : PG X tg t) (f : ∀ v σ H Q, t' v σ H Q → t v σ H Q) : PG X tg t' := ⟨fun pins s σ H v u Q I r q => h.run pins s σ H v u Q I r (f v σ H Q q)⟩
theorem PGs.imp {X : Cx} {tg : List Expr} {t t' : TGs} (h : PGs X tg t) (f : ∀ v σ H Q, t' v σ H Q → t v σ H Q) : PGs X tg t' := ⟨fun pins s σ H v u Q I r q => h.run pins s σ H v u Q I r (f v σ H Q q)⟩
theorem OpR.imp {X : Cx} {f : Value → Value → Sem Value} {r r' : R2} (h : OpR X f r) (i : ∀ x y H Q, r' x y H Q → r x y H Q) : OpR X f r' := fun pins s σ H x y v u Q I rx ry q => h pins s σ H x y v u Q I rx ry (i x y H Q q)
theorem OpR.or {X : Cx} {f : Value → Value → Sem Value} {r r' : R2} (h : OpR X f r) (h' : OpR X f r') : OpR X f (fun x y H Q => r x y H Q ∨ r' x y H Q) := fun pins s σ H x y v u Q I rx ry q => by
  rcases q with q | q
  · exact h pins s σ H x y v u Q I rx ry q
  · exact h' pins s σ H x y v u Q I rx ry q
end MP
set_option maxRecDepth 100000
set_option maxHeartbeats 4000000
namespace MP
open PySem PySem.Spec PyProof.Rows L2
section
variable {X : Cx} {G : Pg} {Wx : WX} {σ : L2.St} {ι : List Addr} {H : Hp} {h : List O} {Q : VK}

/-- what is wanted of a value that the small run gives -/
abbrev Wants (Q : VK) (G : Pg) : W → List O → List Addr → Hp → Prop := fun w _ ι' H' => ∀ v, VR G H' ι' w v → Q v H'
theorem Wants.int {i : Int} (p : Post G Wx σ ι H (.ok (.int i) h) (Wants Q G)) (r : Rel G h ι H) : Q (.int i) H := p ι H .refl r _ (.int i)
theorem Wants.bl {i : Bool} (p : Post G Wx σ ι H (.ok (.bl i) h) (Wants Q G)) (r : Rel G h ι H) : Q (.bl i) H := p ι H .refl r _ (.bl i)
theorem Wants.str {i : Str} (p : Post G Wx σ ι H (.ok (.str i) h) (Wants Q G)) (r : Rel G h ι H) : Q (.str i) H := p ι H .refl r _ (.str i)
theorem Wants.non (p : Post G Wx σ ι H (.ok .non h) (Wants Q G)) (r : Rel G h ι H) : Q .non H := p ι H .refl r _ .non
theorem oB_ok {o : Option Bool} (p : Post G Wx σ ι H (oB o h) (Wants Q G)) (r : Rel G h ι H) : ∃ b, o = some b ∧ Q (.bl b) H := by
  cases o with
  | none => exact False.elim p
  | some b => exact ⟨b, rfl, Wants.bl p r⟩

theorem mon_app {ι : List Addr} {H : Hp} {D : Addr} : Mon ι H (ι ++ [D]) H := ⟨fun n b e => by rw [List.getElem?_append_left (List.getElem?_eq_some_iff.mp e).1]; exact e, fun _ _ q _ => q⟩
theorem post_alloc {σ : L2.St} {ι : List Addr} {H H' : Hp} {h : List O} {o : O} {Q : VK} {D : Addr} (p : Post G Wx σ ι H (alloc o h) (Wants Q G)) (r : Rel G h ι H') (hD : H D = none) (nD : D ∉ ι) (s : Step ι H ι H') (q : OR G H' (ι ++ [D]) D o) : Q (.ref D) H' := by
  have s2 : Step ι H (ι ++ [D]) H' := ⟨⟨[D], rfl, fun a ha => by rw [List.mem_singleton.mp ha]; exact hD⟩, s.keep, s.there, s.fix⟩
  have q2 : Rel G (h ++ [o]) (ι ++ [D]) H' := r.alloc nD q .refl
  have p2 : Post G Wx σ ι H (.ok (.ref h.length) (h ++ [o])) (Wants Q G) := p
  refine p2 _ H' s2 q2 _ (.ref ?_)
  rw [List.getElem?_append_right (by rw [r.len]; exact Nat.le_refl _), r.len, Nat.sub_self]
  rfl
/-! ### locking what is new: it never changes from then on -/
def Lk (Q : VK) : VK := fun v H => Q v H ∨ ∃ a u, H a = some u ∧ Mut (some u) ∧ ∀ od, Q v (upd H a (.frz od u))
theorem Lk.ep {pins : List (Addr × Obj)} {s : Shared} {u : Value} (h : EP X pins σ (Lk Q) u s) : EP X pins σ Q u s := by
  obtain ⟨v, H1, I1, r1, q⟩ := h
  rcases q with q | ⟨a, u, e, mu, q⟩
  · exact ⟨v, H1, I1, r1, q⟩
  · obtain ⟨od, I2⟩ := I1.lock e mu
    exact ⟨v, _, I2, r1, q od⟩
theorem PE.lock {e : Expr} {t : TE} (h : PE X e t) : PE X e (fun σ H Q => t σ H (Lk Q)) := ⟨fun pins s σ H Q I q => thn (h.run pins s σ H _ I q) fun _ _ z => Lk.ep z⟩
theorem OpR.lock {f : Value → Value → Sem Value} {r : R2} (h : OpR X f r) : OpR X f (fun x y H Q => r x y H (Lk Q)) := fun pins s σ H x y v u Q I rx ry q => thn (h pins s σ H x y v u _ I rx ry q) fun _ _ z => Lk.ep z
/-- a list + a list -/
def rCatS (K : PySem.W.Frag) : R2 := fun x y H Q => ∃ l b xs zs, x = .ref l ∧ y = .ref b ∧ CatL K H l xs ∧ CatL K H b zs ∧ xs.length + zs.length ≤ sizeLine ∧ ∀ p, H p = none → Q (.ref p) (upd H p (.lst (xs ++ zs)))
theorem catL_is {pins : List (Addr × Obj)} {s : Shared} {a : Addr} {xs : List V} (I : Inv X pins σ H s) (h : CatL X.K H a xs) : ∃ (its : List Value) (n : Nat), Vals xs its ∧ s.heap.get? a = some { cls := .type "list", data := .seq its.toArray n } := by
  rcases h with h | ⟨o, h⟩ | ⟨o, its, n, h1, rfl, h2, h3⟩
  · obtain ⟨_, its, n, r, e⟩ := (show ObjOk X.prog X.w H s.heap a (.lst xs) from I.hok a _ h)
    exact ⟨its, n, r, e⟩
  · obtain ⟨_, _, its, n, r, e⟩ := (show ObjOk X.prog X.w H s.heap a (.frz o (.lst xs)) from I.hok a _ h)
    exact ⟨its, n, r, e⟩
  · exact ⟨its.toList, n, h3, I.kIn a _ h1⟩
theorem op_catS : OpR X (binaryOp .Add) (rCatS X.K) := by
  intro pins s σ H x y v u Q I rx ry h
  obtain ⟨l, b, xs, zs, rfl, rfl, hH, hB, hz, q⟩ := h
  cases rx
  cases ry
  obtain ⟨its, n, r, e⟩ := catL_is I hH
  obtain ⟨its2, n2, r2, e2⟩ := catL_is I hB
  have hl := r.length
  have hl2 := r2.length
  refine PySem.P.add_list e e2 ?_ (by rw [List.size_toArray, List.size_toArray]; omega)
  have ea : its.toArray ++ its2.toArray = (its ++ its2).toArray := by simp
  rw [ea]
  exact ⟨.ref _, _, I.lnew (t' := s.toks) (r.append r2) (by rw [List.length_append]; omega), rfl, q _ I.fresh⟩
/-! ### + - * // % ** -/
def rNo : R2 := fun _ _ _ _ => False
theorem op_no {f : Value → Value → Sem Value} : OpR X f rNo := fun _ _ _ _ _ _ _ _ _ _ _ _ h => h.elim
def rBin (K : PySem.W.Frag) : Operator → R2
  | .Add => fun x y H Q => rCatS K x y H (Lk Q) ∨ rI0 (fun i j => .int (i + j)) x y H Q ∨ (∃ i j, x = .str i ∧ y = .str j ∧ i.length + j.length ≤ sizeLine ∧ Q (.str (i ++ j)) H) ∨ rCatA K x y H Q
  | .Sub => rI0 fun i j => .int (i - j)
  | .Mult => fun x y H Q => rI CMul (fun i j => .int (i * j)) x y H Q ∨ rI CMulW (fun i j => .int (i * j)) x y H Q
  | .FloorDiv => fun x y H Q => rI CDivN (fun i j => .int (i.fdiv j)) x y H Q ∨ rI CDivW (fun i j => .int (i / j)) x y H Q
  | .Mod => rI (fun _ j => j ≠ 0) fun i j => .int (i.fmod j)
  | .Pow => rI CPow fun i j => .int (i ^ j.toNat)
  | _ => rNo
theorem op_bin : ∀ op : Operator, OpR X (binaryOp op) (rBin X.K op)
  | .Add => (OpR.lock op_catS).or (op_add.or (op_add_str.or op_catA))
  | .Sub => op_sub
  | .Mult => op_mul.or op_mulW
  | .FloorDiv => op_fdivN.or op_fdivW
  | .Mod => op_modN
  | .Pow => op_pow
  | .MatMult => op_no
  | .Div => op_no
  | .LShift => op_no
  | .RShift => op_no
  | .BitOr => op_no
  | .BitXor => op_no
  | .BitAnd => op_no
theorem bin_sound {op : Operator} {x y : W} {u v : V} (hx : VR G H ι x u) (hy : VR G H ι y v) (r : Rel G h ι H) (p : Post G Wx σ ι H (binW op x y h) (Wants Q G)) : rBin G.K op u v H Q := by
  unfold binW at p
  split at p
  · cases hx; cases hy
    exact .inr (.inl ⟨_, _, rfl, rfl, Wants.int p r⟩)
  · obtain ⟨c, p⟩ := p.chk
    cases hx with
    | tup hs hr =>
      cases hy with
      | tup hs2 hr2 =>
        have c := of_decide_eq_true c
        have l1 := hr.length
        have l2 := hr2.length
        refine .inr (.inr (.inr ⟨_, _, _, _, rfl, rfl, hs, hs2, by rw [← l1, ← l2]; exact c, fun e => ?_, fun _ e => ?_, fun _ _ q hq => ?_⟩))
        · subst e
          cases hr
          exact p.ok r _ (.tup hs2 hr2)
        · subst e
          cases hr2
          exact p.ok r _ (by rw [List.append_nil]; exact .tup hs hr)
        · exact p ι _ (Step.new hq) (r.new hq) _ (.tup (.of upd_same) ((hr.append hr2).mono (Step.new hq)))
  · obtain ⟨c, p⟩ := p.chk
    cases hx with
    | slst hs hr =>
      cases hy with
      | slst hs2 hr2 =>
        have c := of_decide_eq_true c
        refine .inl ⟨_, _, _, _, rfl, rfl, .inr hs, .inr hs2, by rw [← hr.length, ← hr2.length]; exact c, fun t ht => .inr ⟨t, _, upd_same, trivial, fun od => ?_⟩⟩
        rw [upd_upd]
        exact p ι _ (Step.new ht) (r.new ht) _ (.slst (.inl ⟨od, upd_same⟩) ((hr.append hr2).mono (Step.new ht)))
  · split at p
    · rename_i xs ys e1 e2
      obtain ⟨c, p⟩ := p.chk
      have c := of_decide_eq_true c
      cases hx with
      | ref ha =>
        cases hy with
        | ref hb =>
          obtain ⟨vs, a1, a2⟩ := r.obj _ _ _ e1 ha
          obtain ⟨us, b1, b2⟩ := r.obj _ _ _ e2 hb
          refine .inl ⟨_, _, vs, us, rfl, rfl, .inl a1, .inl b1, by rw [← a2.length, ← b2.length]; exact c, fun t ht => .inl ?_⟩
          have st : Step ι H ι (upd H t (.lst (vs ++ us))) := Step.new ht
          refine post_alloc p (r.new ht) ht (r.fresh ht) st ⟨_, upd_same, VRs.mon mon_app ((a2.append b2).mono st)⟩
    · exact False.elim p
  · cases hx; cases hy
    obtain ⟨c, p⟩ := p.chk
    exact .inr (.inr (.inl ⟨_, _, rfl, rfl, of_decide_eq_true c, Wants.str p r⟩))
  · cases hx; cases hy
    exact ⟨_, _, rfl, rfl, Wants.int p r⟩
  · cases hx; cases hy
    obtain ⟨c, p⟩ := p.chk
    have q := Wants.int p r
    unfold mulOk at c
    simp only [Bool.or_eq_true, decide_eq_true_eq] at c
    rcases c with c | c | c
    · exact .inl ⟨_, _, rfl, rfl, .inl c, q⟩
    · exact .inl ⟨_, _, rfl, rfl, .inr c, q⟩
    · exact .inr ⟨_, _, rfl, rfl, c, q⟩
  · cases hx; cases hy
    obtain ⟨c, p⟩ := p.chk
    have q := Wants.int p r
    unfold divOk at c
    simp only [Bool.or_eq_true, decide_eq_true_eq] at c
    rcases c with c | c
    · exact .inl ⟨_, _, rfl, rfl, c, q⟩
    · rw [Int.fdiv_eq_ediv_of_nonneg _ (by omega)] at q
      exact .inr ⟨_, _, rfl, rfl, c, q⟩
  · cases hx; cases hy
    obtain ⟨c, p⟩ := p.chk
    exact ⟨_, _, rfl, rfl, of_decide_eq_true c, Wants.int p r⟩
  · cases hx; cases hy
    obtain ⟨c, p⟩ := p.chk
    unfold powOk at c
    have c := of_decide_eq_true c
    exact ⟨_, _, rfl, rfl, c, Wants.int p r⟩
  · exact False.elim p

/-! ### data -/
mutual
inductive DR (K : PySem.W.Frag) (H : Hp) : V → PyData → Prop
  | non : DR K H .non .none
  | bl (b : Bool) : DR K H (.bl b) (.bool b)
  | int (i : Int) : DR K H (.int i) (.int i)
  | str (x : Str) : DR K H (.str x) (.str x)
  | lst {a : Addr} {xs : List V} {ds : List PyData} : SqL K H a xs → DRs K H xs ds → DR K H (.ref a) (.list ds)
  | tup {a : Addr} {xs : List V} {ds : List PyData} : SqT K H a xs → DRs K H xs ds → DR K H (.ref a) (.tuple ds)
  | dct {a : Addr} {m : List (Key × V)} {ds : List (PyData × PyData)} : Rd H a (.dK m) → DRk K H m ds → DR K H (.ref a) (.dict ds)
inductive DRs (K : PySem.W.Frag) (H : Hp) : List V → List PyData → Prop
  | nil : DRs K H [] []
  | cons {v : V} {vs : List V} {d : PyData} {ds : List PyData} : DR K H v d → DRs K H vs ds → DRs K H (v :: vs) (d :: ds)
inductive DRk (K : PySem.W.Frag) (H : Hp) : List (Key × V) → List (PyData × PyData) → Prop
  | nil : DRk K H [] []
  | cons {k : Key} {v : V} {vs : List (Key × V)} {d : PyData} {ds : List (PyData × PyData)} : DR K H v d → DRk K H vs ds → DRk K H ((k, v) :: vs) ((keyD k, d) :: ds)
end
mutual
theorem DR.dp {K : PySem.W.Frag} {H : Hp} : ∀ {v : V} {d : PyData}, DR K H v d → d.hasDict = false → Dp K H v d
  | _, _, .non, _ => .non
  | _, _, .bl b, _ => .bl b
  | _, _, .int i, _ => .int i
  | _, _, .str x, _ => .str x
  | _, _, .lst h r, e => .lst h (DRs.dp r (by simpa only [PyData.hasDict] using e))
  | _, _, .tup h r, e => .tup h (DRs.dp r (by simpa only [PyData.hasDict] using e))
  | _, _, .dct h r, e => by simp [PyData.hasDict] at e
theorem DRs.dp {K : PySem.W.Frag} {H : Hp} : ∀ {vs : List V} {ds : List PyData}, DRs K H vs ds → PyData.hasDictAll ds = false → DpAll K H vs ds
  | _, _, .nil, _ => .nil
  | _, _, .cons r t, e => by
    simp only [PyData.hasDictAll, Bool.or_eq_false_iff] at e
    exact .cons (DR.dp r e.1) (DRs.dp t e.2)
end
theorem DRs.of {K : PySem.W.Frag} {H : Hp} {R : W → V → Prop} {f : W → Option PyData} (hf : ∀ {w v d}, R w v → f w = some d → DR K H v d) : ∀ {ws : List W} {vs : List V} {ds : List PyData}, Paired R ws vs → ws.mapM f = some ds → DRs K H vs ds := by
  intro ws
  induction ws with
  | nil =>
    intro vs ds hv e
    cases hv
    simp at e
    subst e
    exact .nil
  | cons w ws ih2 =>
    intro vs ds hv e
    cases hv with
    | cons h1 h2 =>
      simp only [List.mapM_cons, Option.pure_def, Option.bind_eq_bind, Option.bind_eq_some_iff] at e
      obtain ⟨d, e1, ds', e2, e3⟩ := e
      cases e3
      exact .cons (hf h1 e1) (ih2 h2 e2)
theorem DRk.of {K : PySem.W.Frag} {H : Hp} {R : W → V → Prop} {f : W → Option PyData} (hf : ∀ {w v d}, R w v → f w = some d → DR K H v d) : ∀ {ws : List (Key × W)} {vs : List (Key × V)} {ds : List (PyData × PyData)}, Paired (fun p q => p.1 = q.1 ∧ R p.2 q.2) ws vs →
    (ws.mapM fun kv => (f kv.2).map fun d => (keyD kv.1, d)) = some ds → DRk K H vs ds := by
  intro ws
  induction ws with
  | nil =>
    intro vs ds hv e
    cases hv
    simp at e
    subst e
    exact .nil
  | cons w ws ih2 =>
    intro vs ds hv e
    cases hv with
    | @cons _ q _ _ h1 h2 =>
      obtain ⟨k, w⟩ := w
      obtain ⟨k', v⟩ := q
      obtain ⟨h1, h3⟩ := h1
      dsimp only at h1 h3
      subst h1
      simp only [List.mapM_cons, Option.pure_def, Option.bind_eq_bind, Option.bind_eq_some_iff, Option.map_eq_some_iff] at e
      obtain ⟨_, ⟨d, e1, rfl⟩, ds', e2, e3⟩ := e
      cases e3
      exact .cons (hf h3 e1) (ih2 h2 e2)
theorem VRs.pair {G : Pg} {H : Hp} {ι : List Addr} : ∀ {ws : List W} {vs : List V}, VRs G H ι ws vs → Paired (VR G H ι) ws vs
  | _, _, .nil => .nil
  | _, _, .cons r t => .cons r (VRs.pair t)
theorem VKs.pair {G : Pg} {H : Hp} {ι : List Addr} : ∀ {ws : List (Key × W)} {vs : List (Key × V)}, VKs G H ι ws vs → Paired (fun p q => p.1 = q.1 ∧ VR G H ι p.2 q.2) ws vs
  | _, _, .nil => .nil
  | _, _, .cons r t => .cons ⟨rfl, r⟩ (VKs.pair t)
theorem dp_of (r : Rel G h ι H) : ∀ (n : Nat) {w : W} {v : V} {d : PyData}, VR G H ι w v → toD h n w = some d → DR G.K H v d := by
  intro n
  induction n with
  | zero =>
    intro w v d hv e
    cases hv <;> simp [toD] at e
    · subst e; exact .non
    · subst e; exact .bl _
    · subst e; exact .int _
    · subst e; exact .str _
  | succ n ih =>
    intro w v d hv e
    cases hv with
    | non => simp [toD] at e; subst e; exact .non
    | bl b => simp [toD] at e; subst e; exact .bl _
    | int i => simp [toD] at e; subst e; exact .int _
    | str x => simp [toD] at e; subst e; exact .str _
    | tup hs hr =>
      rw [toD, Option.map_eq_some_iff] at e
      obtain ⟨ds, e1, rfl⟩ := e
      exact .tup hs (DRs.of (f := toD h n) ih hr.pair e1)
    | slst hs hr =>
      rw [toD, Option.map_eq_some_iff] at e
      obtain ⟨ds, e1, rfl⟩ := e
      exact .lst hs.sql (DRs.of (f := toD h n) ih hr.pair e1)
    | sdct hs hr =>
      rw [toD, Option.map_eq_some_iff] at e
      obtain ⟨ds, e1, rfl⟩ := e
      exact .dct (.inr ⟨_, hs⟩) (DRk.of (f := toD h n) ih hr.pair e1)
    | ref ha =>
      rw [toD] at e
      split at e
      · rename_i ws eo
        rw [Option.map_eq_some_iff] at e
        obtain ⟨ds, e1, rfl⟩ := e
        obtain ⟨vs, hs, hr⟩ := r.sql eo ha
        exact .lst hs (DRs.of (f := toD h n) ih hr.pair e1)
      · rename_i ws eo
        rw [Option.map_eq_some_iff] at e
        obtain ⟨ds, e1, rfl⟩ := e
        obtain ⟨m, hs, hr⟩ := r.obj _ _ _ eo ha
        exact .dct (.of hs) (DRk.of (f := toD h n) ih hr.vk.pair e1)
      · cases e
theorem dp_all (r : Rel G h ι H) (n : Nat) {ws : List W} {vs : List V} {ds : List PyData} (hv : VRs G H ι ws vs) (e : ws.mapM (toD h n) = some ds) : DRs G.K H vs ds := DRs.of (f := toD h n) (dp_of r n) hv.pair e

/-! ### operands -/
/-- an operand's image: a value's, or that of a new list -/
def OpdR (G : Pg) (H : Hp) (ι : List Addr) : Opd → V → Prop
  | .inl ws, v => ∃ D vs, v = .ref D ∧ H D = some (.lst vs) ∧ D ∉ ι ∧ VRs G H ι ws vs
  | .inr w, v => VR G H ι w v
theorem OpdR.mono {ι' : List Addr} {H' : Hp} {o : Opd} {v : V} (s : Step ι H ι' H') (q : OpdR G H ι o v) : OpdR G H' ι' o v := by
  cases o with
  | inl ws =>
    obtain ⟨D, vs, rfl, e, n, r⟩ := q
    refine ⟨D, vs, rfl, s.keep D _ e n, fun hm => ?_, r.mono s⟩
    obtain ⟨t, et, ht⟩ := s.ext
    rw [et] at hm
    rcases List.mem_append.mp hm with hm | hm
    · exact n hm
    · rw [ht D hm] at e; cases e
  | inr w => exact VR.mono s q
theorem dp_opd (r : Rel G h ι H) {o : Opd} {v : V} {d : PyData} (q : OpdR G H ι o v) (e : datO h o = some d) : DR G.K H v d := by
  cases o with
  | inl ws =>
    obtain ⟨D, vs, rfl, eD, n, hr⟩ := q
    unfold datO at e
    rw [Option.map_eq_some_iff] at e
    obtain ⟨ds, e1, rfl⟩ := e
    exact .lst (.of eD) (dp_all r _ hr e1)
  | inr w => exact dp_of r _ q e

/-! ### comparisons -/
def rCmp (K : PySem.W.Frag) : CmpOp → R2
  | .Eq => fun x y H Q => rEq x y H Q ∨ rEqD K x y H Q
  | .NotEq => fun x y H Q => rNe x y H Q ∨ rNeD K x y H Q
  | .Lt => rI0 fun i j => .bl (decide (i < j))
  | .LtE => rI0 fun i j => .bl (decide (i ≤ j))
  | .Gt => rI0 fun i j => .bl (decide (j < i))
  | .GtE => rI0 fun i j => .bl (decide (j ≤ i))
  | .Is => fun x y H Q => y = .non ∧ Q (.bl (decide (x = .non))) H
  | .IsNot => fun x y H Q => y = .non ∧ Q (.bl (!decide (x = .non))) H
  | .In => fun x y H Q => (∃ i j, x = .str i ∧ y = .str j ∧ Q (.bl (!(Builtin.Str.occurrences j i 0 j.length 1).isEmpty)) H) ∨ rIn K false x y H Q
  | .NotIn => fun x y H Q => (∃ i j, x = .str i ∧ y = .str j ∧ Q (.bl (!(!(Builtin.Str.occurrences j i 0 j.length 1).isEmpty))) H) ∨ rIn K true x y H Q
theorem op_cmp (hu : X.A.units + 64 < cLine) (hK : X.K = G.K) : ∀ op : CmpOp, OpR X (compareOp op) (rCmp G.K op) := by
  rw [← hK]
  intro op
  cases op with
  | Eq => exact op_eq.or (op_eqD hu)
  | NotEq => exact op_ne.or (op_neD hu)
  | Lt => exact op_lt
  | LtE => exact op_le
  | Gt => exact op_gt
  | GtE => exact op_ge
  | Is => exact op_isN
  | IsNot => exact op_notN
  | In => exact op_in_str.or op_in_seq
  | NotIn => exact op_notin_str.or op_notIn_seq
theorem scal_eq {x y : W} {u v : V} (hx : VR G H ι x u) (hy : VR G H ι y v) (c : scalW x y = true) : scal u v = true ∧ decide (u = v) = eqS x y := by
  cases hx <;> cases hy <;> first
    | exact absurd c Bool.false_ne_true
    | (refine ⟨rfl, ?_⟩; simp [eqS]; done)
    | (refine ⟨rfl, ?_⟩; simp only [eqS, V.int.injEq, V.bl.injEq, V.str.injEq]; first | rfl | simp)
theorem flat_of {x : W} {u : V} (hx : VR G H ι x u) (c : flatW x = true) : flatV u = true := by
  cases hx <;> first | rfl | exact absurd c Bool.false_ne_true
theorem eqF_of {x y : W} {u v : V} (hx : VR G H ι x u) (hy : VR G H ι y v) (c : flatW x = true) (d : flatW y = true) : eqV u v = eqF x y := by
  cases hx <;> cases hy <;> first | rfl | exact absurd c Bool.false_ne_true | exact absurd d Bool.false_ne_true
theorem flats_of : ∀ {ws : List W} {vs : List V}, VRs G H ι ws vs → ws.all flatW = true → vs.all flatV = true
  | _, _, .nil, _ => rfl
  | _, _, .cons h1 h2, c => by
    rw [List.all_cons, Bool.and_eq_true] at c ⊢
    exact ⟨flat_of h1 c.1, flats_of h2 c.2⟩
theorem inF_of {x : W} {u : V} (hx : VR G H ι x u) (cx : flatW x = true) : ∀ {ws : List W} {vs : List V}, VRs G H ι ws vs → ws.all flatW = true → inV u vs = ws.any fun z => eqF z x
  | _, _, .nil, _ => rfl
  | _, _, .cons h1 h2, c => by
    rw [List.all_cons, Bool.and_eq_true] at c
    unfold inV
    rw [List.any_cons, List.any_cons, eqF_of h1 hx c.1 cx]
    congr 1
    exact inF_of hx cx h2 c.2
/-- a list or a tuple -/
theorem seq_of (r : Rel G h ι H) {y : W} {v : V} {ws : List W} (hy : VR G H ι y v) (e : seqW h y = some ws) : ∃ a vs, v = .ref a ∧ (SqL G.K H a vs ∨ SqT G.K H a vs) ∧ VRs G H ι ws vs := by
  unfold seqW at e
  cases hy with
  | tup hs hr => cases e; exact ⟨_, _, rfl, .inr hs, hr⟩
  | slst hs hr => cases e; exact ⟨_, _, rfl, .inl hs.sql, hr⟩
  | ref ha =>
    dsimp only at e
    split at e
    · rename_i ws' eo
      cases e
      obtain ⟨vs, h1, h2⟩ := r.sql eo ha
      exact ⟨_, vs, rfl, .inl h1, h2⟩
    · cases e
  | _ => cases e
theorem in_opd (r : Rel G h ι H) {a b : Opd} {u v : V} {k : Bool} (ha : OpdR G H ι a u) (hb : OpdR G H ι b v) (e : inO h a b = some k) (neg : Bool) (q : Q (.bl (if neg then !k else k)) H) :
    (∃ i j, u = .str i ∧ v = .str j ∧ Q (.bl (if neg then !(!(Builtin.Str.occurrences j i 0 j.length 1).isEmpty) else !(Builtin.Str.occurrences j i 0 j.length 1).isEmpty)) H) ∨ rIn G.K neg u v H Q := by
  cases a with
  | inl ws => cases b <;> cases e
  | inr x =>
    have hx : VR G H ι x u := ha
    cases b with
    | inl ws =>
      obtain ⟨D, vs, rfl, eD, n, hr⟩ := hb
      unfold inO at e
      dsimp only at e
      split at e
      · rename_i c
        cases e
        rw [Bool.and_eq_true] at c
        refine .inr ⟨D, vs, rfl, .inl (.of eD), flat_of hx c.1, flats_of hr c.2, ?_⟩
        rw [inF_of hx c.1 hr c.2]
        exact q
      · cases e
    | inr y =>
      have hy : VR G H ι y v := hb
      have e' : inW h x y = some k := e
      unfold inW at e'
      split at e'
      · cases e'
        cases hx; cases hy
        exact .inl ⟨_, _, rfl, rfl, q⟩
      · split at e'
        · rename_i ws es
          split at e'
          · rename_i c
            cases e'
            rw [Bool.and_eq_true] at c
            obtain ⟨a, vs, rfl, hs, hr⟩ := seq_of r hy es
            refine .inr ⟨a, vs, rfl, hs, flat_of hx c.1, flats_of hr c.2, ?_⟩
            rw [inF_of hx c.1 hr c.2]
            exact q
          · cases e'
        · cases e'
theorem eq_opd (r : Rel G h ι H) {a b : Opd} {u v : V} {k : Bool} (ha : OpdR G H ι a u) (hb : OpdR G H ι b v) (e : eqO h a b = some k) :
    (scal u v = true ∧ decide (u = v) = k) ∨ ∃ d e, Dp G.K H u d ∧ Dp G.K H v e ∧ SeqAt.shaped d = true ∧ SeqAt.shaped e = true ∧ PyData.eqv d e = k := by
  have deep : (match datO h a, datO h b with
    | some d, some e => if (SeqAt.shaped d && SeqAt.shaped e) = true then some (PyData.eqv d e) else none
    | _, _ => none) = some k → ∃ d e, Dp G.K H u d ∧ Dp G.K H v e ∧ SeqAt.shaped d = true ∧ SeqAt.shaped e = true ∧ PyData.eqv d e = k := by
    intro e
    split at e
    · rename_i d1 d2 e1 e2
      split at e
      · rename_i c
        cases e
        rw [Bool.and_eq_true] at c
        exact ⟨d1, d2, (dp_opd r ha e1).dp (PyData.hasDict_of_canLay _ (SeqAt.canLay_of_shaped c.1)), (dp_opd r hb e2).dp (PyData.hasDict_of_canLay _ (SeqAt.canLay_of_shaped c.2)), c.1, c.2, rfl⟩
      · cases e
    · cases e
  cases a with
  | inl ws => exact .inr (deep e)
  | inr x =>
    cases b with
    | inl ws => exact .inr (deep e)
    | inr y =>
      have e' : eqW h x y = some k := e
      unfold eqW at e'
      split at e'
      · rename_i c
        cases e'
        exact .inl (scal_eq ha hb c)
      · exact .inr (deep e')
theorem cmp_sound {op : CmpOp} {a b : Opd} {u v : V} (ha : OpdR G H ι a u) (hb : OpdR G H ι b v) (r : Rel G h ι H) (p : Post G Wx σ ι H (cmpO op a b h) (Wants Q G)) : rCmp G.K op u v H Q := by
  have inrs : ∀ {op : CmpOp}, Post G Wx σ ι H (match a, b with
    | .inr x, .inr y => cmpW op x y h
    | _, _ => (.stuck : R W)) (Wants Q G) → ∃ x y, a = .inr x ∧ b = .inr y ∧ Post G Wx σ ι H (cmpW op x y h) (Wants Q G) := by
    intro op p
    cases a with
    | inl _ => exact False.elim p
    | inr x =>
      cases b with
      | inl _ => exact False.elim p
      | inr y => exact ⟨x, y, rfl, rfl, p⟩
  cases op with
  | Eq =>
    obtain ⟨k, e, q⟩ := oB_ok (show Post G Wx σ ι H (oB (eqO h a b) h) (Wants Q G) from p) r
    rcases eq_opd r ha hb e with ⟨c, e2⟩ | ⟨d, e, h1, h2, h3, h4, h5⟩
    · exact .inl ⟨c, by rw [e2]; exact q⟩
    · exact .inr ⟨d, e, h1, h2, h3, h4, by rw [h5]; exact q⟩
  | NotEq =>
    obtain ⟨k, e, q⟩ := oB_ok (show Post G Wx σ ι H (oB ((eqO h a b).map (!·)) h) (Wants Q G) from p) r
    rw [Option.map_eq_some_iff] at e
    obtain ⟨k, e, rfl⟩ := e
    rcases eq_opd r ha hb e with ⟨c, e2⟩ | ⟨d, e, h1, h2, h3, h4, h5⟩
    · exact .inl ⟨c, by rw [e2]; exact q⟩
    · exact .inr ⟨d, e, h1, h2, h3, h4, by rw [h5]; exact q⟩
  | In =>
    obtain ⟨k, e, q⟩ := oB_ok (show Post G Wx σ ι H (oB (inO h a b) h) (Wants Q G) from p) r
    exact in_opd r ha hb e false q
  | NotIn =>
    obtain ⟨k, e, q⟩ := oB_ok (show Post G Wx σ ι H (oB ((inO h a b).map (!·)) h) (Wants Q G) from p) r
    rw [Option.map_eq_some_iff] at e
    obtain ⟨k, e, rfl⟩ := e
    exact in_opd r ha hb e true q
  | Is =>
    obtain ⟨x, y, rfl, rfl, p⟩ := inrs (op := .Is) p
    obtain ⟨k, e, q⟩ := oB_ok (show Post G Wx σ ι H (oB (isW x y) h) (Wants Q G) from p) r
    unfold isW at e
    have hx : VR G H ι x u := ha
    have hy : VR G H ι y v := hb
    split at e
    · cases hy
      cases e
      refine ⟨rfl, ?_⟩
      cases hx <;> exact q
    · cases e
  | IsNot =>
    obtain ⟨x, y, rfl, rfl, p⟩ := inrs (op := .IsNot) p
    obtain ⟨k, e, q⟩ := oB_ok (show Post G Wx σ ι H (oB ((isW x y).map (!·)) h) (Wants Q G) from p) r
    rw [Option.map_eq_some_iff] at e
    obtain ⟨k, e, rfl⟩ := e
    unfold isW at e
    have hx : VR G H ι x u := ha
    have hy : VR G H ι y v := hb
    split at e
    · cases hy
      cases e
      refine ⟨rfl, ?_⟩
      cases hx <;> exact q
    · cases e
  | Lt =>
    obtain ⟨x, y, rfl, rfl, p⟩ := inrs (op := .Lt) p
    have hx : VR G H ι x u := ha
    have hy : VR G H ι y v := hb
    cases hx <;> cases hy <;> first | exact False.elim p | exact ⟨_, _, rfl, rfl, Wants.bl p r⟩
  | LtE =>
    obtain ⟨x, y, rfl, rfl, p⟩ := inrs (op := .LtE) p
    have hx : VR G H ι x u := ha
    have hy : VR G H ι y v := hb
    cases hx <;> cases hy <;> first | exact False.elim p | exact ⟨_, _, rfl, rfl, Wants.bl p r⟩
  | Gt =>
    obtain ⟨x, y, rfl, rfl, p⟩ := inrs (op := .Gt) p
    have hx : VR G H ι x u := ha
    have hy : VR G H ι y v := hb
    cases hx <;> cases hy <;> first | exact False.elim p | exact ⟨_, _, rfl, rfl, Wants.bl p r⟩
  | GtE =>
    obtain ⟨x, y, rfl, rfl, p⟩ := inrs (op := .GtE) p
    have hx : VR G H ι x u := ha
    have hy : VR G H ι y v := hb
    cases hx <;> cases hy <;> first | exact False.elim p | exact ⟨_, _, rfl, rfl, Wants.bl p r⟩
end
end MP
set_option maxRecDepth 100000
set_option maxHeartbeats 4000000
namespace MP
open PySem PySem.Spec PyProof.Rows L2

/-! ### looks at the text's trees -/
def notStar : Expr → Bool | .Starred _ _ => false | _ => true
def notSlice : Expr → Bool | .Slice _ _ _ _ => false | _ => true
def notSup : Expr → Bool | .Call (.Name _ _) [] [] _ => false | _ => true
def notSet : Expr → Bool | .Set _ _ _ => false | _ => true
def plT : Expr → Bool | .UnaryOp .Not _ _ => false | .BoolOp _ _ _ => false | .IfExp _ _ _ _ => false | .Compare _ _ _ _ => false | _ => true
theorem star_ok {e : Expr} {es : List Expr} {env : Env} (h : notStar e = true) : starEach (e :: es) env = (false, eval e env) :: starEach es env := by
  cases e <;> first | rfl | exact absurd h Bool.false_ne_true
theorem stars_ok {pos : Pos} {env : Env} : ∀ {es : List Expr}, es.all notStar = true → (backTo pos (starEach es env)).any (·.1) = false
  | [], _ => rfl
  | e :: es, h => by
    rw [List.all_cons, Bool.and_eq_true] at h
    rw [star_ok h.1]
    show (false || (backTo pos (starEach es env)).any (·.1)) = false
    rw [stars_ok h.2]
    rfl
theorem stars_all {pos : Pos} {env : Env} : ∀ {es : List Expr}, es.all notStar = true → (backTo pos (starEach es env)).all (fun x => !x.1) = true
  | [], _ => rfl
  | e :: es, h => by
    rw [List.all_cons, Bool.and_eq_true] at h
    rw [star_ok h.1]
    show (true && (backTo pos (starEach es env)).all (fun x => !x.1)) = true
    rw [stars_all h.2]
    rfl
theorem slice_ok {b : Expr} (h : notSlice b = true) : PlainIx b := by
  intro o i
  cases b <;> first | rfl | exact absurd h Bool.false_ne_true
theorem sup_ok {o : Expr} {f : Str} {env : Env} (h : notSup o = true) : attributeBase o f env (eval o env) = eval o env := by
  cases o with
  | Call fn as ks p =>
    cases fn with
    | Name id q =>
      cases as with
      | nil =>
        cases ks with
        | nil => exact absurd h Bool.false_ne_true
        | cons _ _ => rfl
      | cons _ _ => rfl
    | _ => rfl
  | _ => rfl
theorem set_ok {b : Expr} {op : CmpOp} (h : notSet b = true) : behindInMarks op b = false := by
  cases b <;> first | rfl | exact absurd h Bool.false_ne_true
theorem fold_ok {b : Expr} {env : Env} (h : notSet b = true) : ∀ x, foldedSetIterable b env x = pure x := by
  intro x
  cases b <;> first | rfl | exact absurd h Bool.false_ne_true
theorem plT_ok {e : Expr} {env : Env} (h : plT e = true) : ∀ whole, isTrue e env whole = (do let v ← whole; standAt e.pos; holding [v] (truthy v)) := by
  intro whole
  cases e with
  | UnaryOp op a p => cases op <;> first | rfl | exact absurd h Bool.false_ne_true
  | BoolOp => exact absurd h Bool.false_ne_true
  | IfExp => exact absurd h Bool.false_ne_true
  | Compare => exact absurd h Bool.false_ne_true
  | _ => rfl

/-! ### the names at hand -/
structure Ctx where
  N : List Str
  names : List (Str × NameKind)
  /-- where names may be stored -/
  sets : List (Str × NameKind)
  /-- the text's own defs -/
  fs : List Str
  /-- the text's own exceptions, each with its field -/
  exs : List (Str × Str) := []
  /-- the text's own classes -/
  cls : List Str := []
structure Gx (G : Pg) (lvl : Nat) (c : Ctx) (X : Cx) : Prop where
  prog : X.prog = G.P
  w : X.w = G.w
  K : X.K = G.K
  mg : X.mg = G.mg
  base : X.base = G.base
  N : X.N = c.N
  nd : c.N.Nodup
  nm : X.env.scope.names = c.names
  kd : X.env.scope.kind = .function
  st : ∀ x, (c.sets.lookup x = some .local ∨ c.sets.lookup x = some .cell) → Loc X.env.scope x ∧ (X.fn x = true ∨ X.env.scope.names.lookup x = some .local)
  calm : X.calm = true
  room : Room lvl X.A
  gd : X.A.guards = some []
def visB (c : Ctx) (x : Str) : Bool := match c.names.lookup x with
  | some .local => true | some .cell => true | some .free => true
  | _ => false
def glB (c : Ctx) (x : Str) : Bool := match c.names.lookup x with
  | some .globalImplicit => true
  | _ => false
def setB (c : Ctx) (x : Str) : Bool := match c.sets.lookup x with
  | some .local => true | some .cell => true
  | _ => false
def debB (x : Str) : Bool := !(x == ("__debug__" : Str)) && !(x == ("__classdict__" : Str))
section
variable {G : Pg} {lvl : Nat} {c : Ctx} {X : Cx} {x : Str}
theorem Gx.vis (g : Gx G lvl c X) (h : visB c x = true) : Vis X.env.scope x := by
  unfold visB at h
  unfold Vis
  rw [g.nm]
  split at h
  · exact .inl (by assumption)
  · exact .inr (.inl (by assumption))
  · exact .inr (.inr (by assumption))
  · exact absurd h Bool.false_ne_true
theorem Gx.gl (g : Gx G lvl c X) (h : glB c x = true) : Gl X x := by
  unfold glB at h
  show X.env.scope.names.lookup x = _
  rw [g.nm]
  split at h
  · assumption
  · exact absurd h Bool.false_ne_true
theorem Gx.set (g : Gx G lvl c X) (h : setB c x = true) : Loc X.env.scope x ∧ (X.fn x = true ∨ X.env.scope.names.lookup x = some .local) := by
  unfold setB at h
  split at h
  · exact g.st x (.inl (by assumption))
  · exact g.st x (.inr (by assumption))
  · exact absurd h Bool.false_ne_true
theorem deb_of (h : debB x = true) : (x == ("__debug__" : Str)) = false := by
  unfold debB at h
  rw [Bool.and_eq_true] at h
  simpa using h.1
theorem cd_of (h : debB x = true) : (x == ("__classdict__" : Str)) = false := by
  unfold debB at h
  rw [Bool.and_eq_true] at h
  simpa using h.2
theorem Gx.hu (g : Gx G lvl c X) : X.A.units + 64 < cLine := g.room.units
end

/-! ### what the module gives -/
def bltNames : List Str := ["len", "repr", "abs", "max", "min", "all", "any", "sum", "tuple", "list", "range", "zip", "enumerate", "isinstance", "int", "bool", "str", "dict", "sorted", "set", "reversed"]
def tyNames : List String := ["int", "bool", "str", "list", "tuple", "dict"]
/-- what a call promises: the small run's own end -/
def spI (G : Pg) (m : List W → List O → R W) (n : Nat) : Sp := fun vs H Q E => vs.length = n ∧ ∃ ι h ws, Rel G h ι H ∧ VRs G H ι ws vs ∧
  Post G (fun cls d _ H => E cls d H) [] ι H (m ws h) (Wants Q G)
/-- a def keeps a promise, where no repr is under way -/
structure FnG (G : Pg) (k : Nat) (f : Addr) (fd : FuncData) (ps : List Str) (sp : Sp) : Prop where
  len : ∀ vs H Q E, sp vs H Q E → vs.length = ps.length
  run : ∀ (A : Around) (outer : List Env) (s : Shared) (H : Hp) (args : Args) (us : List Value) (vs : List V) (Q : VK) (E : XK), Room k A → A.guards = some [] → Env0 G.P G.w G.K G.mg G.base A outer s H →
    BindsTo s fd args (ps.zip us) → Vals vs us → sp vs H Q E → codeAny (model G.P G.w) A (.call (.ref f) args) (CR (L2.CX G.P G.w) outer G.P G.w H s Q E) s
structure Fc (G : Pg) (C : Cn) (lvl : Nat) (fs : List Str) : Prop where
  blt : ∀ x ∈ bltNames, G.mg x = none
  glob : ∀ x w, C.gl x = some w → ∃ u v, G.mg x = some u ∧ RelV v u ∧ ∀ ι H, (∃ r, ι = G.i0 ++ r) → VR G H ι w v
  call : ∀ f ∈ fs, ∃ fa fd ps, G.mg f = some (.ref fa) ∧ PySem.W.keepIn G.K (.ref fa) = true ∧ Binds G.K fd ps [] ∧ FnG G lvl fa fd ps (spI G (C.call f) ps.length) ∧
    ∀ ws h, ws.length ≠ ps.length → C.call f ws h = .stuck

/-! ### what is shown of each expression -/
/-- an operand -/
def tO (G : Pg) (Wx : WX) (m : Lo → List O → R Opd) : TE := fun σ H Q => ∃ ι h ℓ, Rel G h ι H ∧ LR G H ι ℓ σ ∧ Post G Wx σ ι H (m ℓ h) fun o _ ι' H' => ∀ v, OpdR G H' ι' o v → Q v H'
/-- a list or a tuple -/
def tS (G : Pg) (Wx : WX) (m : Lo → List O → R (List W)) : TE := fun σ H Q => ∃ ι h ℓ, Rel G h ι H ∧ LR G H ι ℓ σ ∧
  Post G Wx σ ι H (m ℓ h) fun ws _ ι' H' => ∀ a vs, (SqL G.K H' a vs ∨ SqT G.K H' a vs) → VRs G H' ι' ws vs → Q (.ref a) H'
structure OkE (G : Pg) (Wx : WX) (X : Cx) (s : Sm) (e : Expr) : Prop where
  v : PE X e (tV G Wx s.v)
  t : PT X e (tT G Wx s.t)
  l : s.e = true → PE X e (tL G Wx s.l)
  sl : s.e = false → ∀ ℓ h, s.l ℓ h = (s.v ℓ h).bind fun w h => seqR h w
section
variable {G : Pg} {lvl : Nat} {c : Ctx} {X : Cx} {Wx : WX} {C : Cn} {a b e : Expr} {es : List Expr} {pos : Pos}
/-- where a run begins -/
theorem tV.run {m : Lo → List O → R W} {σ : L2.St} {H : Hp} {Q : VK} (h : tV G Wx m σ H Q) : ∃ ι h ℓ, Rel G h ι H ∧ LR G H ι ℓ σ ∧ Post G Wx σ ι H (m ℓ h) (Wants Q G) := h
theorem tru_sound {ι : List Addr} {H : Hp} {h : List O} {w : W} {v : V} {k : Bool} (r : Rel G h ι H) (hv : VR G H ι w v) (e : truW h w = some k) : TruV G.K v H k := by
  cases hv with
  | non => cases e; rfl
  | bl b => cases e; rfl
  | int i => cases e; rfl
  | str x =>
    dsimp only [truW] at e
    split at e
    · cases e
      exact ⟨by assumption, rfl⟩
    · cases e
  | tup hs hr =>
    cases e
    refine .inr (.inl ⟨_, hs, ?_⟩)
    cases hr <;> rfl
  | slst hs hr =>
    cases e
    refine .inl ⟨_, hs.sql, ?_⟩
    cases hr <;> rfl
  | ref ha =>
    dsimp only [truW] at e
    split at e
    · rename_i ws eo
      cases e
      obtain ⟨vs, h1, h2⟩ := r.sql eo ha
      refine .inl ⟨vs, h1, ?_⟩
      cases h2 <;> rfl
    · rename_i ws eo
      cases e
      obtain ⟨m, h1, h2⟩ := r.obj _ _ _ eo ha
      refine .inr (.inr ⟨m, h1, ?_⟩)
      cases h2 <;> rfl
    · cases e
  | sdct hs hr => cases e
theorem truR_ok {ι : List Addr} {H : Hp} {h : List O} {w : W} {v : V} {σ : L2.St} {k : Bool → List O → List Addr → Hp → Prop} (r : Rel G h ι H) (hv : VR G H ι w v) (p : Post G Wx σ ι H (truR h w) k) : ∃ b, TruV G.K v H b ∧ k b h ι H := by
  unfold truR at p
  split at p
  · exact ⟨_, tru_sound r hv (by assumption), p.ok r⟩
  · exact False.elim p
/-- a value's truth as a test -/
theorem PT.ofV {m : Lo → List O → R W} (g : Gx G lvl c X) (h : PE X e (tV G Wx m)) (he : plT e = true) : PT X e (tT G Wx fun ℓ h => (m ℓ h).bind fun w h => truR h w) := by
  refine PT.imp (pt_truth h (plT_ok he)) fun σ H Q ⟨ι, hh, ℓ, r, lr, p⟩ => ?_
  refine ⟨ι, hh, ℓ, r, lr, p.bind.imp fun w h1 ι1 H1 s1 r1 p1 v hv => ?_⟩
  obtain ⟨b, h1, h2⟩ := truR_ok r1 hv p1
  rw [g.K]
  exact ⟨b, h1, h2⟩
/-- a plain value -/
theorem OkE.ofV {v : Lo → List O → R W} (g : Gx G lvl c X) (h : PE X e (tV G Wx v)) (he : plT e = true) : OkE G Wx X (smV v) e :=
  ⟨h, PT.ofV g h he, fun z => absurd z Bool.false_ne_true, fun _ _ _ => rfl⟩
/-- a new list, read as a value -/
theorem tL_of {l : Lo → List O → R (List W)} {σ : L2.St} {H : Hp} {Q : VK} (hv : tV G Wx (fun ℓ h => (l ℓ h).bind fun ws h => alloc (.lst ws) h) σ H Q) : tL G Wx l σ H Q := by
  obtain ⟨ι, hh, ℓ, r, lr, p⟩ := hv
  refine ⟨ι, hh, ℓ, r, lr, ?_⟩
  have p : Post G Wx σ ι H ((l ℓ hh).bind fun ws h => alloc (.lst ws) h) (Wants Q G) := p
  revert p
  cases l ℓ hh with
  | stuck => exact fun p => p
  | exc x h' => exact fun p => p
  | ok ws h' =>
    intro p ι' H' s q D vs hD nD eD hr
    have s2 : Step ι H (ι' ++ [D]) H' := by
      obtain ⟨t, et, ht⟩ := s.ext
      refine ⟨⟨t ++ [D], by rw [et, List.append_assoc], fun a ha => ?_⟩, s.keep, s.there, s.fix⟩
      rcases List.mem_append.mp ha with ha | ha
      · exact ht a ha
      · rw [List.mem_singleton.mp ha]; exact hD
    have mono : VRs G H' (ι' ++ [D]) ws vs := by
      exact VRs.mon mon_app hr
    have q2 : Rel G (h' ++ [.lst ws]) (ι' ++ [D]) H' := q.alloc nD ⟨vs, eD, mono⟩ .refl
    have p2 : Post G Wx σ ι H (.ok (.ref h'.length) (h' ++ [.lst ws])) (Wants Q G) := p
    refine p2 _ H' s2 q2 _ (.ref ?_)
    rw [List.getElem?_append_right (by rw [q.len]; exact Nat.le_refl _), q.len, Nat.sub_self]
    rfl
theorem PE.ofL {l : Lo → List O → R (List W)} (h : PE X e (tL G Wx l)) : PE X e (tV G Wx fun ℓ h => (l ℓ h).bind fun ws h => alloc (.lst ws) h) := PE.imp h fun σ H Q q => tL_of q
theorem OkE.ofL {l : Lo → List O → R (List W)} (g : Gx G lvl c X) (h : PE X e (tL G Wx l)) (he : plT e = true) : OkE G Wx X (smL l) e := by
  refine ⟨PE.ofL h, ?_, fun _ => h, fun z => absurd z.symm Bool.false_ne_true⟩
  refine PT.imp (pt_truth h (plT_ok he)) fun σ H Q ⟨ι, hh, ℓ, r, lr, p⟩ => ?_
  refine ⟨ι, hh, ℓ, r, lr, p.bind.imp fun ws h1 ι1 H1 s1 r1 p1 D vs hD nD eD hr => ⟨!ws.isEmpty, .inl ⟨vs, .of eD, ?_⟩, p1.ok r1⟩⟩
  cases hr <;> rfl
/-- as an operand -/
theorem OkE.o {s : Sm} (h : OkE G Wx X s e) : PE X e (tO G Wx s.opd) := by
  cases hs : s.e with
  | true =>
    refine PE.imp (h.l hs) fun σ H Q ⟨ι, hh, ℓ, r, lr, p⟩ => ⟨ι, hh, ℓ, r, lr, ?_⟩
    unfold Sm.opd at p
    rw [hs, if_pos rfl] at p
    refine p.bind.imp fun ws h1 ι1 H1 s1 r1 p1 D vs hD nD eD hr => ?_
    exact p1.ok r1 _ ⟨D, vs, rfl, eD, nD, hr⟩
  | false =>
    refine PE.imp h.v fun σ H Q ⟨ι, hh, ℓ, r, lr, p⟩ => ⟨ι, hh, ℓ, r, lr, ?_⟩
    unfold Sm.opd at p
    rw [hs, if_neg Bool.false_ne_true] at p
    exact p.bind.imp fun w h1 ι1 H1 s1 r1 p1 v hv => p1.ok r1 _ hv
/-- as a list or a tuple -/
theorem OkE.s {s : Sm} (h : OkE G Wx X s e) : PE X e (tS G Wx s.l) := by
  cases hs : s.e with
  | true =>
    refine PE.imp (h.l hs) fun σ H Q ⟨ι, hh, ℓ, r, lr, p⟩ => ⟨ι, hh, ℓ, r, lr, p.imp fun ws h1 ι1 H1 s1 r1 p1 D vs hD nD eD hr => p1 D vs (.inl (.of eD)) hr⟩
  | false =>
    refine PE.imp h.v fun σ H Q ⟨ι, hh, ℓ, r, lr, p⟩ => ⟨ι, hh, ℓ, r, lr, ?_⟩
    rw [h.sl hs] at p
    refine p.bind.imp fun w h1 ι1 H1 s1 r1 p1 v hv => ?_
    unfold seqR at p1
    split at p1
    · obtain ⟨a, vs, rfl, h2, h3⟩ := seq_of r1 hv (by assumption)
      exact p1.ok r1 a vs h2 h3
    · exact False.elim p1

/-! ### constants and names -/
theorem e_const {w : W} {v : V} (he : PE X e (tC v)) (hv : ∀ H ι, VR G H ι w v) : PE X e (tV G Wx fun _ h => .ok w h) :=
  PE.imp he fun σ H Q ⟨ι, hh, ℓ, r, lr, p⟩ => p.ok r _ (hv H ι)
theorem e_var {i : Nat} {x : Str} (g : Gx G lvl c X) (hN : c.N[i]? = some x) (hv : visB c x = true) (hd : debB x = true) : PE X (.Name x pos) (tV G Wx fun ℓ h => ofO (getL ℓ i) h) := by
  refine PE.imp (pe_var (i := i) (by rw [g.N]; exact hN) (g.vis hv) (deb_of hd) (cd_of hd)) fun σ H Q ⟨ι, hh, ℓ, r, lr, p⟩ => ?_
  have p : Post G Wx σ ι H (ofO (getL ℓ i) hh) (Wants Q G) := p
  cases eo : getL ℓ i with
  | none => rw [eo] at p; exact False.elim p
  | some w =>
    rw [eo] at p
    obtain ⟨v, h1, h2⟩ := lr.at_ i w eo
    exact ⟨v, h1, p.ok r _ h2⟩
theorem e_glob {x : Str} (F : Fc G C lvl c.fs) (g : Gx G lvl c X) (hv : glB c x = true) (hd : debB x = true) : PE X (.Name x pos) (tV G Wx fun _ h => ofO (C.gl x) h) := by
  cases eo : C.gl x with
  | none => exact ⟨fun pins s σ H Q I ⟨ι, hh, ℓ, r, lr, p⟩ => False.elim p⟩
  | some w =>
    obtain ⟨u, v, h1, h2, h3⟩ := F.glob x w eo
    exact PE.imp (pe_glob (g.gl hv) (by rw [g.mg]; exact h1) h2 (deb_of hd)) fun σ H Q ⟨ι, hh, ℓ, r, lr, p⟩ => p.ok r _ (h3 ι H r.pre)

/-! ### arguments -/
theorem a_nil : PA X [] (tA G Wx fun _ h => .ok [] h) := PA.imp pa_nil fun σ H Q ⟨ι, hh, ℓ, r, lr, p⟩ => p.ok r _ .nil
theorem a_cons {m : Lo → List O → R W} {ms : Lo → List O → R (List W)} (ha : PE X e (tV G Wx m)) (hr : PA X es (tA G Wx ms)) (hs : notStar e = true) :
    PA X (e :: es) (tA G Wx fun ℓ h => (m ℓ h).bind fun w h => (ms ℓ h).bind fun ws h => .ok (w :: ws) h) := by
  refine PA.imp (pa_cons ha hr (star_ok hs)) fun σ H Q ⟨ι, hh, ℓ, r, lr, p⟩ => ?_
  refine ⟨ι, hh, ℓ, r, lr, p.bind.imp fun w h1 ι1 H1 s1 r1 p1 v hv => ?_⟩
  refine ⟨ι1, h1, ℓ, r1, lr.mono s1, p1.bind.imp fun ws h2 ι2 H2 s2 r2 p2 vs hvs => ?_⟩
  exact p2.ok r2 _ (.cons (hv.mono s2) hvs)
/-- one argument, by any reading -/
theorem a_one {t : TE} (ha : PE X e t) (hs : notStar e = true) : PA X [e] (tCons t tNil) := pa_cons ha pa_nil (star_ok hs)

/-! ### displays -/
theorem e_tup {ms : Lo → List O → R (List W)} {k : Nat} (ha : PA X es (tA G Wx ms)) : PE X (.Tuple es k pos) (tV G Wx fun ℓ h => (ms ℓ h).bind fun ws h => chk (decide (ws.length ≤ sizeLine)) (.ok (.tup ws) h)) := by
  refine PE.imp (pe_tup ha) fun σ H Q ⟨ι, hh, ℓ, r, lr, p⟩ => ?_
  refine ⟨ι, hh, ℓ, r, lr, p.bind.imp fun ws h1 ι1 H1 s1 r1 p1 vs hvs => ?_⟩
  obtain ⟨cz, p1⟩ := p1.chk
  refine ⟨by rw [← hvs.length]; exact of_decide_eq_true cz, fun q hq => ?_⟩
  have s : Step ι1 H1 ι1 (upd H1 q (.tup vs)) := Step.new hq
  exact p1 ι1 _ s (r1.new hq) _ (.tup (.of upd_same) (hvs.mono s))
theorem e_lst {ms : Lo → List O → R (List W)} (ha : PA X es (tA G Wx ms)) : PE X (.List es pos) (tL G Wx fun ℓ h => (ms ℓ h).bind fun ws h => chk (decide (ws.length ≤ sizeLine)) (.ok ws h)) := by
  refine PE.imp (pe_lst ha) fun σ H Q ⟨ι, hh, ℓ, r, lr, p⟩ => ?_
  refine ⟨ι, hh, ℓ, r, lr, p.bind.imp fun ws h1 ι1 H1 s1 r1 p1 vs hvs => ?_⟩
  obtain ⟨cz, p1⟩ := p1.chk
  refine ⟨by rw [← hvs.length]; exact of_decide_eq_true cz, fun q hq => ?_⟩
  have s : Step ι1 H1 ι1 (upd H1 q (.lst vs)) := Step.new hq
  exact p1 ι1 _ s (r1.new hq) q vs (s1.back hq) (r1.fresh hq) upd_same (hvs.mono s)
end
end MP
set_option maxRecDepth 100000
set_option maxHeartbeats 4000000
namespace MP
open PySem PySem.Spec PyProof.Rows L2
section
variable {G : Pg} {lvl : Nat} {c : Ctx} {X : Cx} {Wx : WX} {C : Cn} {a b d e : Expr} {es : List Expr} {pos : Pos} {sa sb sc : Sm}

/-! ### operators -/
theorem e_bin {op : Operator} {ma mb : Lo → List O → R W} (g : Gx G lvl c X) (ha : PE X a (tV G Wx ma)) (hb : PE X b (tV G Wx mb)) :
    PE X (.BinOp a op b pos) (tV G Wx fun ℓ h => (ma ℓ h).bind fun x h => (mb ℓ h).bind fun y h => binW op x y h) := by
  refine PE.imp (pe_op (op_bin op) ha hb) fun σ H Q ⟨ι, hh, ℓ, r, lr, p⟩ => ?_
  refine ⟨ι, hh, ℓ, r, lr, p.bind.imp fun x h1 ι1 H1 s1 r1 p1 u hu => ?_⟩
  refine ⟨ι1, h1, ℓ, r1, lr.mono s1, p1.bind.imp fun y h2 ι2 H2 s2 r2 p2 v hv => ?_⟩
  rw [g.K]
  exact bin_sound (hu.mono s2) hv r2 p2
theorem e_neg {ma : Lo → List O → R W} (ha : PE X a (tV G Wx ma)) :
    PE X (.UnaryOp .USub a pos) (tV G Wx fun ℓ h => (ma ℓ h).bind fun x h => match x with | .int i => .ok (.int (-i)) h | _ => .stuck) := by
  refine PE.imp (pe_un un_neg ha) fun σ H Q ⟨ι, hh, ℓ, r, lr, p⟩ => ?_
  refine ⟨ι, hh, ℓ, r, lr, p.bind.imp fun x h1 ι1 H1 s1 r1 p1 u hu => ?_⟩
  cases hu <;> first
    | exact False.elim p1
    | exact ⟨_, rfl, Wants.int p1 r1⟩
theorem e_not (g : Gx G lvl c X) (ha : OkE G Wx X sa a) :
    OkE G Wx X { smV (fun ℓ h => (sa.v ℓ h).bind fun w h => (truR h w).bind fun b h => .ok (.bl (!b)) h) with t := fun ℓ h => (sa.t ℓ h).bind fun b h => .ok (!b) h } (.UnaryOp .Not a pos) := by
  refine ⟨?_, ?_, fun z => absurd z Bool.false_ne_true, fun _ _ _ => rfl⟩
  · refine PE.imp (pe_notT ha.v) fun σ H Q ⟨ι, hh, ℓ, r, lr, p⟩ => ?_
    refine ⟨ι, hh, ℓ, r, lr, p.bind.imp fun x h1 ι1 H1 s1 r1 p1 u hu => ?_⟩
    obtain ⟨k, h2, h3⟩ := truR_ok r1 hu p1.bind
    rw [g.K]
    exact ⟨k, h2, Wants.bl h3 r1⟩
  · refine PT.imp (pt_not ha.t) fun σ H Q ⟨ι, hh, ℓ, r, lr, p⟩ => ?_
    exact ⟨ι, hh, ℓ, r, lr, p.bind.imp fun x h1 ι1 H1 s1 r1 p1 => p1.ok r1⟩

/-! ### and, or -/
structure OkB (G : Pg) (Wx : WX) (X : Cx) (s : Sm) (e : Expr) : Prop where
  v : PE X e (tV G Wx s.v)
  t : PW X e (tT G Wx s.t)
theorem b_one {op : BoolOp} (ha : OkE G Wx X sa a) : OkB G Wx X sa (.BoolOp op [a] pos) :=
  ⟨pe_one ha.v, by cases op with | And => exact pw_and1 ha.t | Or => exact pw_or1 ha.t⟩
def boolSm (op : BoolOp) (sa sb : Sm) : Sm := { smV (fun ℓ h => (sa.v ℓ h).bind fun w h => (truR h w).bind fun k h => match op with
      | .And => if k = true then sb.v ℓ h else .ok w h
      | .Or => if k = true then .ok w h else sb.v ℓ h) with
    t := fun ℓ h => (sa.t ℓ h).bind fun k h => match op with
      | .And => if k = true then sb.t ℓ h else .ok false h
      | .Or => if k = true then .ok true h else sb.t ℓ h }
theorem b_more {op : BoolOp} (g : Gx G lvl c X) (ha : OkE G Wx X sa a) (hb : OkB G Wx X sb (.BoolOp op (b :: es) pos)) : OkB G Wx X (boolSm op sa sb) (.BoolOp op (a :: b :: es) pos) := by
  cases op with
  | And =>
    refine ⟨?_, ?_⟩
    · refine PE.imp (pe_andT ha.v hb.v) fun σ H Q ⟨ι, hh, ℓ, r, lr, p⟩ => ?_
      refine ⟨ι, hh, ℓ, r, lr, p.bind.imp fun x h1 ι1 H1 s1 r1 p1 u hu => ?_⟩
      obtain ⟨k, h2, h3⟩ := truR_ok r1 hu p1.bind
      rw [g.K]
      refine ⟨k, h2, ?_⟩
      cases k with
      | true => exact iteT ⟨ι1, h1, ℓ, r1, lr.mono s1, h3⟩
      | false => exact iteF (h3.ok r1 _ hu)
    · refine PW.imp (pw_and ha.t hb.t) fun σ H Q ⟨ι, hh, ℓ, r, lr, p⟩ => ?_
      refine ⟨ι, hh, ℓ, r, lr, p.bind.imp fun k h1 ι1 H1 s1 r1 p1 => ?_⟩
      cases k with
      | true => exact iteT ⟨ι1, h1, ℓ, r1, lr.mono s1, p1⟩
      | false => exact iteF (p1.ok r1)
  | Or =>
    refine ⟨?_, ?_⟩
    · refine PE.imp (pe_orT ha.v hb.v) fun σ H Q ⟨ι, hh, ℓ, r, lr, p⟩ => ?_
      refine ⟨ι, hh, ℓ, r, lr, p.bind.imp fun x h1 ι1 H1 s1 r1 p1 u hu => ?_⟩
      obtain ⟨k, h2, h3⟩ := truR_ok r1 hu p1.bind
      rw [g.K]
      refine ⟨k, h2, ?_⟩
      cases k with
      | true => exact iteT (h3.ok r1 _ hu)
      | false => exact iteF ⟨ι1, h1, ℓ, r1, lr.mono s1, h3⟩
    · refine PW.imp (pw_or ha.t hb.t) fun σ H Q ⟨ι, hh, ℓ, r, lr, p⟩ => ?_
      refine ⟨ι, hh, ℓ, r, lr, p.bind.imp fun k h1 ι1 H1 s1 r1 p1 => ?_⟩
      cases k with
      | true => exact iteT (p1.ok r1)
      | false => exact iteF ⟨ι1, h1, ℓ, r1, lr.mono s1, p1⟩
theorem b_end {op : BoolOp} (g : Gx G lvl c X) (hb : OkB G Wx X sb (.BoolOp op es pos)) (he : sb.e = false) (hl : ∀ ℓ h, sb.l ℓ h = (sb.v ℓ h).bind fun w h => seqR h w) : OkE G Wx X sb (.BoolOp op es pos) :=
  ⟨hb.v, hb.t.pt, fun z => absurd (he.symm.trans z) Bool.false_ne_true, fun _ => hl⟩

/-! ### comparisons -/
theorem unBl_ok {ι : List Addr} {H : Hp} {σ : L2.St} {rw' : R W} {k : Bool → List O → List Addr → Hp → Prop} (p : Post G Wx σ ι H (unBl rw') k) : Post G Wx σ ι H rw' fun w h' ι' H' => ∃ b, w = .bl b ∧ k b h' ι' H' := by
  refine (Post.bind p).imp fun w h1 ι1 H1 s1 r1 p1 => ?_
  split at p1
  · exact ⟨_, rfl, p1.ok r1⟩
  · exact False.elim p1
theorem opd_run {s : Sm} (ha : OkE G Wx X s a) : PE X a (tO G Wx s.opd) := ha.o
def cmpSm (op : CmpOp) (sa sb : Sm) : Sm := let v := fun ℓ h => (sa.opd ℓ h).bind fun x h => (sb.opd ℓ h).bind fun y h => cmpO op x y h
    { smV v with t := fun ℓ h => unBl (v ℓ h) }
theorem Wants.of {σ : L2.St} {ι : List Addr} {H : Hp} {r : R W} {f : Bool → Hp → Prop} {k : W → List O → List Addr → Hp → Prop} (p : Post G Wx σ ι H r k)
    (hk : ∀ w h' ι' H', k w h' ι' H' → ∃ b, w = .bl b ∧ f b H') : Post G Wx σ ι H r (Wants (fun v H' => ∃ b, v = .bl b ∧ f b H') G) := by
  refine p.imp fun w h1 ι1 H1 s1 r1 q v hv => ?_
  obtain ⟨b, rfl, q2⟩ := hk w h1 ι1 H1 q
  cases hv
  exact ⟨b, rfl, q2⟩
theorem e_cmp {op : CmpOp} (g : Gx G lvl c X) (ha : OkE G Wx X sa a) (hb : OkE G Wx X sb b) (hn : notSet b = true) : OkE G Wx X (cmpSm op sa sb) (.Compare a [op] [b] pos) := by
  have ho : OpR X (compareOp op) (rCmp G.K op) := op_cmp g.hu g.K op
  refine ⟨?_, ?_, fun z => absurd z Bool.false_ne_true, fun _ _ _ => rfl⟩
  · refine PE.imp (pe_cmpR ho ha.o hb.o (set_ok hn)) fun σ H Q ⟨ι, hh, ℓ, r, lr, p⟩ => ?_
    refine ⟨ι, hh, ℓ, r, lr, (Post.bind p).imp fun x h1 ι1 H1 s1 r1 p1 u hu => ?_⟩
    refine ⟨ι1, h1, ℓ, r1, lr.mono s1, (Post.bind p1).imp fun y h2 ι2 H2 s2 r2 p2 v hv => ?_⟩
    exact cmp_sound (hu.mono s2) hv r2 p2
  · refine PT.imp (pt_cmpR ho ha.o hb.o (set_ok hn)) fun σ H Q ⟨ι, hh, ℓ, r, lr, p⟩ => ?_
    have p : Post G Wx σ ι H (unBl ((sa.opd ℓ hh).bind fun x h => (sb.opd ℓ h).bind fun y h => cmpO op x y h)) _ := p
    have p := Wants.of (unBl_ok p) (f := Q) fun w h' ι' H' z => z
    refine ⟨ι, hh, ℓ, r, lr, (Post.bind p).imp fun x h1 ι1 H1 s1 r1 p1 u hu => ?_⟩
    refine ⟨ι1, h1, ℓ, r1, lr.mono s1, (Post.bind p1).imp fun y h2 ι2 H2 s2 r2 p2 v hv => ?_⟩
    exact cmp_sound (hu.mono s2) hv r2 p2
theorem cmpW_O {op : CmpOp} {x y : W} {h : List O} : cmpW op x y h = cmpO op (.inr x) (.inr y) h := by cases op <;> rfl
def chainSm (op1 op2 : CmpOp) (sa sb sc : Sm) : Sm := let v := fun ℓ h => (sa.v ℓ h).bind fun x h => (sb.v ℓ h).bind fun y h => (unBl (cmpW op1 x y h)).bind fun k h =>
      if k = true then ((sc.v ℓ h).bind (fun z h => cmpW op2 y z h)) else .ok (.bl false) h
    { smV v with t := fun ℓ h => unBl (v ℓ h) }
theorem e_chain {op1 op2 : CmpOp} (g : Gx G lvl c X) (ha : OkE G Wx X sa a) (hb : OkE G Wx X sb b) (hd : OkE G Wx X sc d) (hn : notSet d = true) : OkE G Wx X (chainSm op1 op2 sa sb sc) (.Compare a [op1, op2] [b, d] pos) := by
  have ho1 : OpR X (compareOp op1) (rCmp G.K op1) := op_cmp g.hu g.K op1
  have ho2 : OpR X (compareOp op2) (rCmp G.K op2) := op_cmp g.hu g.K op2
  have body : ∀ (σ : L2.St) (H : Hp) (Q : VK) (ι : List Addr) (hh : List O) (ℓ : Lo), Rel G hh ι H → LR G H ι ℓ σ → Post G Wx σ ι H ((chainSm op1 op2 sa sb sc).v ℓ hh) (Wants Q G) → tChain (rCmp G.K op1) (rCmp G.K op2) (tV G Wx sa.v) (tV G Wx sb.v) (tV G Wx sc.v) σ H Q := by
    intro σ H Q ι hh ℓ r lr p
    refine ⟨ι, hh, ℓ, r, lr, (Post.bind p).imp fun x h1 ι1 H1 s1 r1 p1 u hu => ?_⟩
    refine ⟨ι1, h1, ℓ, r1, lr.mono s1, (Post.bind p1).imp fun y h2 ι2 H2 s2 r2 p2 v hv => ?_⟩
    have p3 := unBl_ok (Post.bind p2)
    rw [cmpW_O] at p3
    refine cmp_sound (Q := fun z H3 => ∃ k, z = .bl k ∧ if k = true then tV G Wx sc.v σ H3 (fun w' H4 => rCmp G.K op2 v w' H4 Q) else Q (.bl false) H3) (show OpdR G H2 ι2 (.inr x) u from hu.mono s2) (show OpdR G H2 ι2 (.inr y) v from hv) r2 (p3.imp fun w h3 ι3 H3 s3 r3 p4 z hz => ?_)
    obtain ⟨k, rfl, p4⟩ := p4
    cases hz
    refine ⟨k, rfl, ?_⟩
    cases k with
    | true =>
      refine iteT ⟨ι3, h3, ℓ, r3, (lr.mono s1).mono (s2.trans s3), (Post.bind p4).imp fun z h4 ι4 H4 s4 r4 p5 w' hw' => ?_⟩
      rw [cmpW_O] at p5
      exact cmp_sound (show OpdR G H4 ι4 (.inr y) v from hv.mono (s3.trans s4)) (show OpdR G H4 ι4 (.inr z) w' from hw') r4 p5
    | false => exact iteF (Wants.bl p4 r3)
  refine ⟨?_, ?_, fun z => absurd z Bool.false_ne_true, fun _ _ _ => rfl⟩
  · exact PE.imp (pe_chain ho1 ho2 ha.v hb.v hd.v (by show behindInMarks op2 d = false; exact set_ok hn)) fun σ H Q ⟨ι, hh, ℓ, r, lr, p⟩ => body σ H Q ι hh ℓ r lr p
  · refine PT.imp (pt_chain ho1 ho2 ha.v hb.v hd.v (by show behindInMarks op2 d = false; exact set_ok hn)) fun σ H Q ⟨ι, hh, ℓ, r, lr, p⟩ => ?_
    exact body σ H _ ι hh ℓ r lr (Wants.of (unBl_ok p) (f := Q) fun w h' ι' H' z => z)

/-! ### a if t else b -/
def iteSm (sc sa sb : Sm) : Sm := { smV (fun ℓ h => (sc.t ℓ h).bind fun k h => if k = true then sa.v ℓ h else sb.v ℓ h) with
      t := fun ℓ h => (sc.t ℓ h).bind fun k h => if k = true then sa.t ℓ h else sb.t ℓ h }
theorem e_ite (hc : OkE G Wx X sc d) (ha : OkE G Wx X sa a) (hb : OkE G Wx X sb b) : OkE G Wx X (iteSm sc sa sb) (.IfExp d a b pos) := by
  refine ⟨?_, ?_, fun z => absurd z Bool.false_ne_true, fun _ _ _ => rfl⟩
  · refine PE.imp (pe_ifExp hc.t ha.v hb.v) fun σ H Q ⟨ι, hh, ℓ, r, lr, p⟩ => ?_
    refine ⟨ι, hh, ℓ, r, lr, (Post.bind p).imp fun k h1 ι1 H1 s1 r1 p1 => ?_⟩
    cases k with
    | true => exact iteT ⟨ι1, h1, ℓ, r1, lr.mono s1, p1⟩
    | false => exact iteF ⟨ι1, h1, ℓ, r1, lr.mono s1, p1⟩
  · refine ⟨fun pins s σ H Q I ⟨ι, hh, ℓ, r, lr, p⟩ => ?_⟩
    refine isTrue_IfExp (thn (hc.t.run pins s σ H (fun k H1 => if k = true then tT G Wx sa.t σ H1 Q else tT G Wx sb.t σ H1 Q) I ⟨ι, hh, ℓ, r, lr, (Post.bind p).imp fun k h1 ι1 H1 s1 r1 p1 => ?_⟩) fun k s1 ⟨H1, I1, q1⟩ => ?_)
    · cases k with
      | true => exact iteT ⟨ι1, h1, ℓ, r1, lr.mono s1, p1⟩
      | false => exact iteF ⟨ι1, h1, ℓ, r1, lr.mono s1, p1⟩
    · cases k with
      | true => exact ha.t.run pins s1 σ H1 Q I1 q1
      | false => exact hb.t.run pins s1 σ H1 Q I1 q1

/-! ### subscripts and slices -/
def subSm (sa sb : Sm) : Sm := smV fun ℓ h => (sa.opd ℓ h).bind fun x h => (sb.v ℓ h).bind fun y h => match x with
    | .inl ws => match y with
      | .int i => ofO (atI ws i) h
      | _ => .stuck
    | .inr x => subW x y h
theorem atI_R {ι : List Addr} {H : Hp} {ws : List W} {vs : List V} {i : Int} {w : W} (hr : VRs G H ι ws vs) (e : atI ws i = some w) : ∃ v, atI vs i = some v ∧ VR G H ι w v := by
  unfold atI at e ⊢
  rw [← hr.length]
  cases hj : ixN ws.length i with
  | none => rw [hj] at e; cases e
  | some j =>
    rw [hj] at e
    exact hr.get e
theorem e_sub (g : Gx G lvl c X) (ha : OkE G Wx X sa a) (hb : OkE G Wx X sb b) (hs : notSlice b = true) : OkE G Wx X (subSm sa sb) (.Subscript a b pos) := by
  refine OkE.ofV g ?_ rfl
  refine PE.imp (pe_ix ix_seq ha.o hb.v (slice_ok hs)) fun σ H Q ⟨ι, hh, ℓ, r, lr, p⟩ => ?_
  refine ⟨ι, hh, ℓ, r, lr, (Post.bind p).imp fun x h1 ι1 H1 s1 r1 p1 u hu => ?_⟩
  refine ⟨ι1, h1, ℓ, r1, lr.mono s1, (Post.bind p1).imp fun y h2 ι2 H2 s2 r2 p2 v hv => ?_⟩
  have hu2 := hu.mono s2
  rw [g.K]
  cases x with
  | inl ws =>
    obtain ⟨D, vs, rfl, eD, nD, hr⟩ := hu2
    cases hv <;> first
      | exact False.elim p2
      | skip
    rename_i i
    have p2 : Post G Wx σ ι2 H2 (ofO (atI ws i) h2) (Wants Q G) := p2
    cases ew : atI ws i with
    | none => rw [ew] at p2; exact False.elim p2
    | some w =>
      rw [ew] at p2
      obtain ⟨z, e1, e2⟩ := atI_R hr ew
      exact .inl ⟨D, vs, i, z, rfl, rfl, .of eD, e1, p2.ok r2 _ e2⟩
  | inr x =>
    have hx : VR G H2 ι2 x u := hu2
    have p2 : Post G Wx σ ι2 H2 (subW x y h2) (Wants Q G) := p2
    unfold subW at p2
    split at p2
    · cases hx; cases hv
      obtain ⟨cz, p2⟩ := p2.chk
      split at p2
      · exact .inr (.inr ⟨_, _, _, rfl, rfl, of_decide_eq_true cz, by assumption, Wants.str p2 r2⟩)
      · exact False.elim p2
    · cases hv
      split at p2
      · rename_i ws es
        split at p2
        · rename_i w ew
          obtain ⟨q, vs, rfl, hsq, hr⟩ := seq_of r2 hx es
          obtain ⟨z, e1, e2⟩ := atI_R hr ew
          rcases hsq with hsq | hsq
          · exact .inl ⟨q, vs, _, z, rfl, rfl, hsq, e1, p2.ok r2 _ e2⟩
          · exact .inr (.inl ⟨q, vs, _, z, rfl, rfl, hsq, e1, p2.ok r2 _ e2⟩)
        · exact False.elim p2
      · exact False.elim p2
    · exact False.elim p2
/-- an end of a slice -/
def tP (G : Pg) (Wx : WX) (m : Lo → List O → R (Option Int)) : TO := fun σ H Q => ∃ ι h ℓ, Rel G h ι H ∧ LR G H ι ℓ σ ∧ Post G Wx σ ι H (m ℓ h) fun o _ _ H' => Q o H'
theorem PO.imp {o : Option Expr} {t t' : TO} (h : PO X o t) (f : ∀ σ H Q, t' σ H Q → t σ H Q) : PO X o t' := ⟨fun pins s σ H Q I q => h.run pins s σ H Q I (f σ H Q q)⟩
theorem o_none : PO X none (tP G Wx fun _ h => .ok none h) := PO.imp po_none fun σ H Q ⟨ι, hh, ℓ, r, lr, p⟩ => p.ok r
theorem o_some {m : Lo → List O → R W} (he : PE X e (tV G Wx m)) : PO X (some e) (tP G Wx fun ℓ h => (m ℓ h).bind fun w h => match w with
    | .int i => .ok (some i) h
    | _ => .stuck) := by
  refine PO.imp (po_some he) fun σ H Q ⟨ι, hh, ℓ, r, lr, p⟩ => ?_
  refine ⟨ι, hh, ℓ, r, lr, p.bind.imp fun x h1 ι1 H1 s1 r1 p1 u hu => ?_⟩
  cases hu <;> first
    | exact False.elim p1
    | exact ⟨_, rfl, p1.ok r1⟩
theorem lsqO_ok {ι : List Addr} {H : Hp} {h : List O} {σ : L2.St} {x : Opd} {u : V} {k : List W → List O → List Addr → Hp → Prop} (r : Rel G h ι H) (hu : OpdR G H ι x u) (p : Post G Wx σ ι H (lsqO h x) k) :
    ∃ q vs ws, u = .ref q ∧ SqL G.K H q vs ∧ VRs G H ι ws vs ∧ k ws h ι H := by
  unfold lsqO at p
  split at p
  · obtain ⟨D, vs, rfl, eD, nD, hr⟩ := hu
    exact ⟨D, vs, _, rfl, .of eD, hr, p.ok r⟩
  · cases (show VR G H ι _ u from hu) with
    | slst hs hr => exact ⟨_, _, _, rfl, hs.sql, hr, p.ok r⟩
  · cases (show VR G H ι _ u from hu) with
    | ref ha =>
      split at p
      · obtain ⟨vs, h1, h2⟩ := r.sql (by assumption) ha
        exact ⟨_, vs, _, rfl, h1, h2, p.ok r⟩
      · exact False.elim p
  · exact False.elim p
theorem catO_ok {ι : List Addr} {H : Hp} {h : List O} {σ : L2.St} {x : Opd} {u : V} {k : List W → List O → List Addr → Hp → Prop} (r : Rel G h ι H) (hu : OpdR G H ι x u) (p : Post G Wx σ ι H (lsqO h x) k) :
    ∃ q vs ws, u = .ref q ∧ CatL G.K H q vs ∧ VRs G H ι ws vs ∧ k ws h ι H := by
  unfold lsqO at p
  split at p
  · obtain ⟨D, vs, rfl, eD, nD, hr⟩ := hu
    exact ⟨D, vs, _, rfl, .inl eD, hr, p.ok r⟩
  · cases (show VR G H ι _ u from hu) with
    | slst hs hr => exact ⟨_, _, _, rfl, .inr hs, hr, p.ok r⟩
  · cases (show VR G H ι _ u from hu) with
    | ref ha =>
      split at p
      · rename_i ws eo
        obtain ⟨vs, h1, h2⟩ := r.obj _ _ _ eo ha
        exact ⟨_, vs, _, rfl, .inl h1, h2, p.ok r⟩
      · exact False.elim p
  · exact False.elim p
theorem e_slice {lo hi : Option Expr} {p2 : Pos} {ma : Lo → List O → R W} {ml mh : Lo → List O → R (Option Int)} (g : Gx G lvl c X) (ha : PE X a (tV G Wx ma)) (hl : PO X lo (tP G Wx ml)) (hh : PO X hi (tP G Wx mh)) :
    PE X (.Subscript a (.Slice lo hi none p2) pos) (tV G Wx fun ℓ h => (ma ℓ h).bind fun x h => (ml ℓ h).bind fun l h => (mh ℓ h).bind fun u h => match x with
    | .str z => chk (decide (z.length ≤ sizeLine)) (.ok (.str (cutS z l u)) h)
    | .tup ws => .ok (.tup (cutW ws l u)) h
    | x => (lsqO h (.inr x)).bind fun ws h => .ok (.slst (cutW ws l u)) h) := by
  refine PE.imp (PE.lock (pe_slice (sl_str.or (sl_tupA.or sl_list)) ha hl hh)) fun σ H Q ⟨ι, hh, ℓ, r, lr, p⟩ => ?_
  refine ⟨ι, hh, ℓ, r, lr, p.bind.imp fun x h1 ι1 H1 s1 r1 p1 u hu => ?_⟩
  refine ⟨ι1, h1, ℓ, r1, lr.mono s1, p1.bind.imp fun l h2 ι2 H2 s2 r2 p2 => ?_⟩
  refine ⟨ι2, h2, ℓ, r2, (lr.mono s1).mono s2, p2.bind.imp fun k h3 ι3 H3 s3 r3 p3 => ?_⟩
  have hu2 := (hu.mono s2).mono s3
  rw [g.K]
  have lst : ∀ {x : W}, VR G H3 ι3 x u → Post G Wx σ ι3 H3 ((lsqO h3 (.inr x)).bind fun ws h => .ok (.slst (cutW ws l k)) h) (Wants Q G) → (∃ z, u = .str z ∧ z.length ≤ sizeLine ∧ Lk Q (.str (cutS z l k)) H3) ∨ rSlA G.K u l k H3 (Lk Q) ∨ rSlL G.K u l k H3 (Lk Q) := by
    intro x hx q
    obtain ⟨q1, vs, ws, rfl, hs, hr, p4⟩ := lsqO_ok r3 (show OpdR G H3 ι3 (.inr x) u from hx) q.bind
    refine .inr (.inr ⟨q1, vs, rfl, hs, fun t ht => .inr ⟨t, _, upd_same, trivial, fun od => ?_⟩⟩)
    rw [upd_upd]
    exact p4 ι3 _ (Step.new ht) (r3.new ht) _ (.slst (.inl ⟨od, upd_same⟩) ((hr.cut l k).mono (Step.new ht)))
  cases hu2 with
  | str z =>
    obtain ⟨cz, p3⟩ := Post.chk p3
    exact .inl ⟨z, rfl, of_decide_eq_true cz, .inl (Wants.str p3 r3)⟩
  | @tup q vs ws hs hr =>
    refine .inr (.inl ⟨q, vs, rfl, hs, fun hw => ?_, fun hw t ht => ?_⟩)
    · have e : cutW ws l k = ws := by
        unfold cutW
        rw [hr.length, hw.1, hw.2, List.drop_zero, Nat.sub_zero, ← hr.length, List.take_length]
      have p3 : Post G Wx σ ι3 H3 (.ok (.tup (cutW ws l k)) h3) (Wants Q G) := p3
      rw [e] at p3
      exact .inl (p3.ok r3 _ (.tup hs hr))
    · have p3 : Post G Wx σ ι3 H3 (.ok (.tup (cutW ws l k)) h3) (Wants Q G) := p3
      exact .inl <| p3 ι3 _ (Step.new ht) (r3.new ht) _ (.tup (.of upd_same) ((hr.cut l k).mono (Step.new ht)))
  | slst hs hr => exact lst (.slst hs hr) p3
  | ref ha => exact lst (.ref ha) p3
  | _ => exact False.elim p3
theorem e_lcut {lo hi : Option Expr} {p2 : Pos} {ml mh : Lo → List O → R (Option Int)} (g : Gx G lvl c X) (ha : OkE G Wx X sa a) (hl : PO X lo (tP G Wx ml)) (hh : PO X hi (tP G Wx mh)) :
    PE X (.Subscript a (.Slice lo hi none p2) pos) (tL G Wx fun ℓ h => (sa.opd ℓ h).bind fun x h => (ml ℓ h).bind fun l h => (mh ℓ h).bind fun u h => (lsqO h x).bind fun ws h => .ok (cutW ws l u) h) := by
  refine PE.imp (pe_slice sl_list ha.o hl hh) fun σ H Q ⟨ι, hh, ℓ, r, lr, p⟩ => ?_
  refine ⟨ι, hh, ℓ, r, lr, p.bind.imp fun x h1 ι1 H1 s1 r1 p1 u hu => ?_⟩
  refine ⟨ι1, h1, ℓ, r1, lr.mono s1, p1.bind.imp fun l h2 ι2 H2 s2 r2 p2 => ?_⟩
  refine ⟨ι2, h2, ℓ, r2, (lr.mono s1).mono s2, p2.bind.imp fun k h3 ι3 H3 s3 r3 p3 => ?_⟩
  have hu2 := (hu.mono s2).mono s3
  rw [g.K]
  obtain ⟨q, vs, ws, rfl, hs, hr, p4⟩ := lsqO_ok r3 hu2 p3.bind
  refine ⟨q, vs, rfl, hs, fun t ht => ?_⟩
  have s4 : Step ι3 H3 ι3 (upd H3 t (.lst (cutV vs l k))) := Step.new ht
  exact p4 ι3 _ s4 (r3.new ht) t _ (s1.back (s2.back (s3.back ht))) (r3.fresh ht) upd_same ((hr.cut l k).mono s4)
theorem VRs.flat {ι : List Addr} {H : Hp} {ws : List W} {vs : List V} (hr : VRs G H ι ws vs) : ∀ k : Nat, VRs G H ι (List.replicate k ws).flatten (List.replicate k vs).flatten
  | 0 => .nil
  | k + 1 => by
    rw [List.replicate_succ, List.replicate_succ, List.flatten_cons, List.flatten_cons]
    exact hr.append (VRs.flat hr k)
theorem e_lrep {mn : Lo → List O → R W} (ha : PE X a (tL G Wx sa.l)) (hb : PE X b (tV G Wx mn)) :
    PE X (.BinOp a .Mult b pos) (tL G Wx fun ℓ h => (sa.l ℓ h).bind fun ws h => (mn ℓ h).bind fun y h => match y with
    | .int k => chk (decide (-(2 ^ 63) ≤ k ∧ k < 2 ^ 63) && decide (ws.length * k.toNat ≤ sizeLine)) (.ok (List.replicate k.toNat ws).flatten h)
    | _ => .stuck) := by
  refine PE.imp (pe_op op_rep ha hb) fun σ H Q ⟨ι, hh, ℓ, r, lr, p⟩ => ?_
  refine ⟨ι, hh, ℓ, r, lr, p.bind.imp fun ws h1 ι1 H1 s1 r1 p1 D vs hD nD eD hr => ?_⟩
  refine ⟨ι1, h1, ℓ, r1, lr.mono s1, p1.bind.imp fun y h2 ι2 H2 s2 r2 p2 v hv => ?_⟩
  cases hv <;> first
    | exact False.elim p2
    | skip
  rename_i k
  obtain ⟨cz, p2⟩ := Post.chk p2
  rw [Bool.and_eq_true] at cz
  obtain ⟨⟨c1, c2⟩, c3⟩ : (-(2 ^ 63) ≤ k ∧ k < 2 ^ 63) ∧ ws.length * k.toNat ≤ sizeLine := ⟨of_decide_eq_true cz.1, of_decide_eq_true cz.2⟩
  have eD2 : H2 D = some (.lst vs) := s2.keep D _ eD nD
  refine ⟨D, k, vs, rfl, rfl, eD2, c1, c2, by rw [← hr.length]; exact c3, fun t ht => ?_⟩
  have s4 : Step ι2 H2 ι2 (upd H2 t (.lst (List.replicate k.toNat vs).flatten)) := Step.new ht
  exact p2 ι2 _ s4 (r2.new ht) t _ (s1.back (s2.back ht)) (r2.fresh ht) upd_same (((hr.mono s2).flat k.toNat).mono s4)
theorem e_lcat (g : Gx G lvl c X) (ha : OkE G Wx X sa a) (hb : OkE G Wx X sb b) :
    PE X (.BinOp a .Add b pos) (tL G Wx fun ℓ h => (sa.opd ℓ h).bind fun x h => (sb.opd ℓ h).bind fun y h => (lsqO h x).bind fun xs h => (lsqO h y).bind fun ys h => chk (decide (xs.length + ys.length ≤ sizeLine)) (.ok (xs ++ ys) h)) := by
  refine PE.imp (pe_op op_catS ha.o hb.o) fun σ H Q ⟨ι, hh, ℓ, r, lr, p⟩ => ?_
  refine ⟨ι, hh, ℓ, r, lr, p.bind.imp fun x h1 ι1 H1 s1 r1 p1 u hu => ?_⟩
  refine ⟨ι1, h1, ℓ, r1, lr.mono s1, p1.bind.imp fun y h2 ι2 H2 s2 r2 p2 v hv => ?_⟩
  rw [g.K]
  obtain ⟨q, vs, ws, rfl, e1, hr1, p3⟩ := catO_ok r2 (hu.mono s2) p2.bind
  obtain ⟨q2, vs2, ws2, rfl, e2, hr2, p4⟩ := catO_ok r2 hv p3.bind
  obtain ⟨cz, p4⟩ := p4.chk
  refine ⟨q, q2, vs, vs2, rfl, rfl, e1, e2, by rw [← hr1.length, ← hr2.length]; exact of_decide_eq_true cz, fun t ht => ?_⟩
  have s4 : Step ι2 H2 ι2 (upd H2 t (.lst (vs ++ vs2))) := Step.new ht
  exact p4 ι2 _ s4 (r2.new ht) t _ (s1.back (s2.back ht)) (r2.fresh ht) upd_same ((hr1.append hr2).mono s4)
theorem e_frz {l : Lo → List O → R (List W)} (h : PE X a (tL G Wx l)) : PE X a (tV G Wx fun ℓ h => (l ℓ h).bind fun ws h => .ok (.slst ws) h) := by
  refine PE.imp (PE.lock h) fun σ H Q ⟨ι, hh, ℓ, r, lr, p⟩ => ⟨ι, hh, ℓ, r, lr, p.bind0.imp fun ws h1 ι1 H1 s1 r1 p1 D vs hD nD eD hr => ?_⟩
  refine .inr ⟨D, _, eD, trivial, fun od => ?_⟩
  obtain ⟨s2, m2⟩ := s1.apart (o := .frz od (.lst vs)) hD eD (fun z => z)
  exact p1 ι1 _ s2 (r1.mon m2 fun a ha => upd_ne fun z => nD (by rw [← z]; exact ha)) _ (.slst (.inl ⟨od, upd_same⟩) (hr.mon m2))
end
end MP
set_option maxRecDepth 100000
set_option maxHeartbeats 4000000
namespace MP
open PySem PySem.Spec PyProof.Rows L2
section
variable {G : Pg} {lvl : Nat} {c : Ctx} {X : Cx} {Wx : WX} {C : Cn} {a b d e : Expr} {es : List Expr} {pos p : Pos} {sa sb sc : Sm}

/-! ### calls of the text's own defs -/
theorem Post.reσ {α : Type} {σ : L2.St} {ι : List Addr} {H : Hp} {r : R α} {k : α → List O → List Addr → Hp → Prop} (q : Post G Wx σ ι H r k) : Post G (fun cls d _ H => Wx cls d σ H) [] ι H r k := by
  cases r with
  | ok a h' => exact q
  | exc x h' => exact q
  | stuck => exact q
/-- a call with values -/
theorem run_g (g : Gx G lvl c X) (tk : Takes X Wx) {fa : Addr} {fd : FuncData} {ps : List Str} {sp : Sp} (hb : Binds G.K fd ps []) (F : FnG G lvl fa fd ps sp)
    {pins : List (Addr × Obj)} {σ : L2.St} {H : Hp} {s : Shared} {Q : VK} {us : List Value} {vs : List V} (I : Inv X pins σ H s) (r : Vals vs us) (q : sp vs H Q (WE Wx σ)) :
    wpAny (model X.prog X.w) X.A (call (.ref fa) us) (EP X pins σ Q) X.xe s := by
  have hlen : us.length = ps.length := by rw [← r.length]; exact F.len _ _ _ _ q
  have kin : G.K.In s.heap := by have z := I.kIn; rw [g.K] at z; exact z
  have b := hb s us kin (by rw [List.append_nil]; exact hlen)
  rw [List.append_nil] at b
  have e0 : Env0 G.P G.w G.K G.mg G.base X.A X.stack s H := by
    have z := I.env0
    rw [g.prog, g.w, g.K, g.mg, g.base] at z
    exact z
  have run := F.run X.A X.stack s H ⟨us, []⟩ us vs Q (WE Wx σ) g.room g.gd e0 b r q
  rw [← g.prog, ← g.w] at run
  refine wpAny_call (codeAny_mono run fun res s' hq => ?_)
  cases res with
  | error er => exact passAt tk σ pins H s er s' I hq
  | ok fl =>
    cases fl with
    | ret u => exact I.after hq
    | next => exact False.elim hq
    | brk => exact False.elim hq
    | cont => exact False.elim hq
theorem call_fin {f : Str} {ps : List Str} (hlen : ∀ ws h, ws.length ≠ ps.length → C.call f ws h = .stuck) {σ : L2.St} {H : Hp} {Q : VK} {ι : List Addr} {h : List O} {ws : List W} {vs : List V} (r : Rel G h ι H) (hv : VRs G H ι ws vs)
    (q : Post G Wx σ ι H (C.call f ws h) (Wants Q G)) : spI G (C.call f) ps.length vs H Q (WE Wx σ) := by
  refine ⟨?_, ι, h, ws, r, hv, q.reσ⟩
  by_cases hl : ws.length = ps.length
  · rw [← hv.length]; exact hl
  · rw [hlen ws h hl] at q
    exact False.elim q
theorem e_call0 {f : Str} (F : Fc G C lvl c.fs) (g : Gx G lvl c X) (tk : Takes X Wx) (hf : f ∈ c.fs) (hgl : glB c f = true) (hd : debB f = true) :
    PE X (.Call (.Name f p) [] [] pos) (tV G Wx fun ℓ h => (R.ok [] h : R (List W)).bind fun ws h => C.call f ws h) := by
  obtain ⟨fa, fd, ps, hm, hk, hb, hF, hlen⟩ := F.call f hf
  have hm' : X.mg f = some (.ref fa) := by rw [g.mg]; exact hm
  have hk' : PySem.W.keepIn X.K (.ref fa) = true := by rw [g.K]; exact hk
  refine ⟨fun pins s σ H Q I ⟨ι, hh, ℓ, r, lr, q⟩ => ?_⟩
  refine wpAny_Call_Name_kw (ld_glob I (g.gl hgl) hm' ?_ (deb_of hd))
  have q : Post G Wx σ ι H (C.call f [] hh) (Wants Q G) := q
  exact PySem.W.callWith_K0 I.kIn hk' (run_g (us := []) g tk hb hF I .nil (call_fin hlen r .nil q))
theorem e_call {f : Str} {ms : Lo → List O → R (List W)} (F : Fc G C lvl c.fs) (g : Gx G lvl c X) (tk : Takes X Wx) (hf : f ∈ c.fs) (hgl : glB c f = true) (hd : debB f = true) (hst : (e :: es).all notStar = true) (ha : PA X (e :: es) (tA G Wx ms)) :
    PE X (.Call (.Name f p) (e :: es) [] pos) (tV G Wx fun ℓ h => (ms ℓ h).bind fun ws h => C.call f ws h) := by
  obtain ⟨fa, fd, ps, hm, hk, hb, hF, hlen⟩ := F.call f hf
  have hm' : X.mg f = some (.ref fa) := by rw [g.mg]; exact hm
  have hk' : PySem.W.keepIn X.K (.ref fa) = true := by rw [g.K]; exact hk
  refine ⟨fun pins s σ H Q I ⟨ι, hh, ℓ, r, lr, q⟩ => ?_⟩
  have q2 := Post.bind q
  rw [List.all_cons, Bool.and_eq_true] at hst
  refine wpAny_Call_Name_kw (ld_glob I (g.gl hgl) hm' ?_ (deb_of hd))
  refine PySem.W.callWith_K (h₀ := X.base) I.ok.mod.kin hk' (thn (ha.run pos pins s σ H (fun vs H1 => spI G (C.call f) ps.length vs H1 Q (WE Wx σ)) I ⟨ι, hh, ℓ, r, lr, q2.imp fun ws h1 ι1 H1 s1 r1 p1 vs hv => call_fin hlen r1 hv p1⟩) fun us s1 ⟨vs, H1, I1, rv, q1⟩ => ⟨I1.kIn, ?_⟩) (star_ok hst.1) (stars_ok hst.2)
  exact run_g g tk hb hF I1 rv q1

/-! ### built-in functions -/
theorem nm_blt (F : Fc G C lvl c.fs) (g : Gx G lvl c X) {f : Str} (h : f ∈ bltNames) : X.mg f = none := by rw [g.mg]; exact F.blt f h
/-- of one value -/
theorem k_abs (F : Fc G C lvl c.fs) (g : Gx G lvl c X) {m : Lo → List O → R W} (hgl : glB c "abs" = true) (hst : notStar a = true) (ha : PE X a (tV G Wx m)) :
    PE X (.Call (.Name "abs" p) [a] [] pos) (tV G Wx fun ℓ h => (m ℓ h).bind fun w h => bltV "abs" [w] h) := by
  refine PE.imp (pe_callB call_abs (g.gl hgl) (nm_blt F g (by decide)) (by decide +kernel) (a_one ha hst) (he := star_ok hst) (hpl := rfl)) fun σ H Q ⟨ι, hh, ℓ, r, lr, q⟩ => ?_
  refine ⟨ι, hh, ℓ, r, lr, q.bind.imp fun w h1 ι1 H1 s1 r1 p1 v hv => ?_⟩
  unfold bltV at p1
  rw [if_pos rfl] at p1
  cases hv <;> first
    | exact False.elim p1
    | exact ⟨_, rfl, Wants.int p1 r1⟩
/-- of two values -/
theorem k_max (F : Fc G C lvl c.fs) (g : Gx G lvl c X) {m n : Lo → List O → R W} (hgl : glB c "max" = true) (hst : notStar a = true) (hst2 : notStar b = true) (ha : PE X a (tV G Wx m)) (hb : PE X b (tV G Wx n)) :
    PE X (.Call (.Name "max" p) [a, b] [] pos) (tV G Wx fun ℓ h => (m ℓ h).bind fun x h => (n ℓ h).bind fun y h => (R.ok [] h : R (List W)).bind fun ws h => bltV "max" (x :: y :: ws) h) := by
  refine PE.imp (pe_callB (call_max2 g.calm) (g.gl hgl) (nm_blt F g (by decide)) (by decide +kernel) (pa_cons ha (pa_cons hb pa_nil (star_ok hst2)) (star_ok hst)) (he := star_ok hst) (hpl := stars_ok (es := [b]) (by rw [List.all_cons, hst2]; rfl))) fun σ H Q ⟨ι, hh, ℓ, r, lr, q⟩ => ?_
  refine ⟨ι, hh, ℓ, r, lr, q.bind.imp fun x h1 ι1 H1 s1 r1 p1 u hu => ?_⟩
  refine ⟨ι1, h1, ℓ, r1, lr.mono s1, p1.bind.imp fun y h2 ι2 H2 s2 r2 p2 v hv => ?_⟩
  have p2 : Post G Wx σ ι2 H2 (bltV "max" [x, y] h2) (Wants Q G) := p2
  unfold bltV at p2
  rw [if_neg (by decide), if_pos rfl] at p2
  cases hu <;> cases hv <;> first
    | exact False.elim p2
    | exact ⟨_, _, rfl, Wants.int p2 r2⟩
theorem k_min (F : Fc G C lvl c.fs) (g : Gx G lvl c X) {m n : Lo → List O → R W} (hgl : glB c "min" = true) (hst : notStar a = true) (hst2 : notStar b = true) (ha : PE X a (tV G Wx m)) (hb : PE X b (tV G Wx n)) :
    PE X (.Call (.Name "min" p) [a, b] [] pos) (tV G Wx fun ℓ h => (m ℓ h).bind fun x h => (n ℓ h).bind fun y h => (R.ok [] h : R (List W)).bind fun ws h => bltV "min" (x :: y :: ws) h) := by
  refine PE.imp (pe_callB (call_min2 g.calm) (g.gl hgl) (nm_blt F g (by decide)) (by decide +kernel) (pa_cons ha (pa_cons hb pa_nil (star_ok hst2)) (star_ok hst)) (he := star_ok hst) (hpl := stars_ok (es := [b]) (by rw [List.all_cons, hst2]; rfl))) fun σ H Q ⟨ι, hh, ℓ, r, lr, q⟩ => ?_
  refine ⟨ι, hh, ℓ, r, lr, q.bind.imp fun x h1 ι1 H1 s1 r1 p1 u hu => ?_⟩
  refine ⟨ι1, h1, ℓ, r1, lr.mono s1, p1.bind.imp fun y h2 ι2 H2 s2 r2 p2 v hv => ?_⟩
  have p2 : Post G Wx σ ι2 H2 (bltV "min" [x, y] h2) (Wants Q G) := p2
  unfold bltV at p2
  rw [if_neg (by decide), if_neg (by decide), if_pos rfl] at p2
  cases hu <;> cases hv <;> first
    | exact False.elim p2
    | exact ⟨_, _, rfl, Wants.int p2 r2⟩
theorem k_len (F : Fc G C lvl c.fs) (g : Gx G lvl c X) (hgl : glB c "len" = true) (hst : notStar a = true) (ha : OkE G Wx X sa a) :
    PE X (.Call (.Name "len" p) [a] [] pos) (tV G Wx fun ℓ h => (sa.opd ℓ h).bind fun x h => match x with
      | .inl ws => .ok (.int ws.length) h
      | .inr w => lenW w h) := by
  refine PE.imp (pe_callB call_len (g.gl hgl) (nm_blt F g (by decide)) (by decide +kernel) (a_one ha.o hst) (he := star_ok hst) (hpl := rfl)) fun σ H Q ⟨ι, hh, ℓ, r, lr, q⟩ => ?_
  refine ⟨ι, hh, ℓ, r, lr, q.bind.imp fun x h1 ι1 H1 s1 r1 p1 v hv => ?_⟩
  rw [g.K]
  have seq : ∀ {w : W}, VR G H1 ι1 w v → Post G Wx σ ι1 H1 ((seqR h1 w).bind fun ws h => .ok (.int ws.length) h) (Wants Q G) → ∃ (x : V) (n : Nat), [v] = [x] ∧ LenV G.K x H1 n ∧ Q (.int n) H1 := by
    intro w hw p2
    unfold seqR at p2
    split at p2
    · rename_i ws es
      obtain ⟨q, vs, rfl, hsq, hr⟩ := seq_of r1 hw es
      have z := Wants.int p2 r1
      rw [hr.length] at z
      refine ⟨_, vs.length, rfl, ?_, z⟩
      rcases hsq with hsq | hsq
      · exact .inl ⟨vs, hsq, rfl⟩
      · exact .inr ⟨vs, hsq, rfl⟩
    · exact False.elim p2
  cases x with
  | inl ws =>
    obtain ⟨D, vs, rfl, eD, nD, hr⟩ := hv
    have z := Wants.int p1 r1
    rw [hr.length] at z
    exact ⟨_, vs.length, rfl, .inl ⟨vs, .of eD, rfl⟩, z⟩
  | inr w =>
    have hw : VR G H1 ι1 w v := hv
    have p1 : Post G Wx σ ι1 H1 (lenW w h1) (Wants Q G) := p1
    cases hw with
    | str x =>
      obtain ⟨cz, p1⟩ := Post.chk p1
      exact ⟨_, x.length, rfl, ⟨of_decide_eq_true cz, rfl⟩, Wants.int p1 r1⟩
    | non => exact False.elim p1
    | bl b => exact False.elim p1
    | int i => exact False.elim p1
    | tup hs hr => exact seq (.tup hs hr) p1
    | slst hs hr => exact seq (.slst hs hr) p1
    | sdct hs hr => exact False.elim p1
    | ref hq => exact seq (.ref hq) p1

/-! ### of a list or a tuple -/
theorem unInts_ok : ∀ {ws : List W} {ns : List Int}, unInts ws = some ns → ws = ns.map W.int
  | [], _, h => by cases h; rfl
  | w :: ws, ns, h => by
    cases w <;> first
      | cases h
      | skip
    rename_i i
    rw [unInts, Option.map_eq_some_iff] at h
    obtain ⟨ms, h1, rfl⟩ := h
    rw [unInts_ok h1, List.map_cons]
theorem unBls_ok : ∀ {ws : List W} {ns : List Bool}, unBls ws = some ns → ws = ns.map W.bl
  | [], _, h => by cases h; rfl
  | w :: ws, ns, h => by
    cases w <;> first
      | cases h
      | skip
    rename_i i
    rw [unBls, Option.map_eq_some_iff] at h
    obtain ⟨ms, h1, rfl⟩ := h
    rw [unBls_ok h1, List.map_cons]
theorem unStrs_ok : ∀ {ws : List W} {ns : List Str}, unStrs ws = some ns → ws = ns.map W.str
  | [], _, h => by cases h; rfl
  | w :: ws, ns, h => by
    cases w <;> first
      | cases h
      | skip
    rename_i i
    rw [unStrs, Option.map_eq_some_iff] at h
    obtain ⟨ms, h1, rfl⟩ := h
    rw [unStrs_ok h1, List.map_cons]
section
variable {ι : List Addr} {H : Hp}
theorem VRs.ints' : ∀ {ns : List Int} {vs : List V}, VRs G H ι (ns.map W.int) vs → vs = ns.map V.int
  | [], _, h => by cases h; rfl
  | n :: ns, _, h => by
    cases h with
    | cons h1 h2 =>
      cases h1
      rw [VRs.ints' h2, List.map_cons]
theorem VRs.bls' : ∀ {ns : List Bool} {vs : List V}, VRs G H ι (ns.map W.bl) vs → vs = ns.map V.bl
  | [], _, h => by cases h; rfl
  | n :: ns, _, h => by
    cases h with
    | cons h1 h2 =>
      cases h1
      rw [VRs.bls' h2, List.map_cons]
theorem VRs.strs' : ∀ {ns : List Str} {vs : List V}, VRs G H ι (ns.map W.str) vs → vs = ns.map V.str
  | [], _, h => by cases h; rfl
  | n :: ns, _, h => by
    cases h with
    | cons h1 h2 =>
      cases h1
      rw [VRs.strs' h2, List.map_cons]
end

theorem k_all (F : Fc G C lvl c.fs) (g : Gx G lvl c X) (hgl : glB c "all" = true) (hst : notStar a = true) (ha : OkE G Wx X sa a) :
    PE X (.Call (.Name "all" p) [a] [] pos) (tV G Wx fun ℓ h => (sa.opd ℓ h).bind fun x h => (lsqO h x).bind fun ws h => bltL "all" ws h) := by
  refine PE.imp (pe_callB (cr_all g.calm) (g.gl hgl) (nm_blt F g (by decide)) (by decide +kernel) (a_one ha.o hst) (he := star_ok hst) (hpl := rfl)) fun σ H Q ⟨ι, hh, ℓ, r, lr, q⟩ => ?_
  refine ⟨ι, hh, ℓ, r, lr, q.bind.imp fun x h1 ι1 H1 s1 r1 p1 v hv => ?_⟩
  obtain ⟨t, vs, ws, rfl, hs, hr, p2⟩ := lsqO_ok r1 hv p1.bind
  rw [g.K]
  unfold bltL at p2
  rw [if_pos rfl] at p2
  split at p2
  · rename_i bs eb
    have e := unBls_ok eb
    subst e
    have e := hr.bls'
    subst e
    exact ⟨t, bs, rfl, hs, Wants.bl p2 r1⟩
  · exact False.elim p2
theorem k_any (F : Fc G C lvl c.fs) (g : Gx G lvl c X) (hgl : glB c "any" = true) (hst : notStar a = true) (ha : OkE G Wx X sa a) :
    PE X (.Call (.Name "any" p) [a] [] pos) (tV G Wx fun ℓ h => (sa.opd ℓ h).bind fun x h => (lsqO h x).bind fun ws h => bltL "any" ws h) := by
  refine PE.imp (pe_callB (cr_any g.calm) (g.gl hgl) (nm_blt F g (by decide)) (by decide +kernel) (a_one ha.o hst) (he := star_ok hst) (hpl := rfl)) fun σ H Q ⟨ι, hh, ℓ, r, lr, q⟩ => ?_
  refine ⟨ι, hh, ℓ, r, lr, q.bind.imp fun x h1 ι1 H1 s1 r1 p1 v hv => ?_⟩
  obtain ⟨t, vs, ws, rfl, hs, hr, p2⟩ := lsqO_ok r1 hv p1.bind
  rw [g.K]
  unfold bltL at p2
  rw [if_neg (by decide), if_pos rfl] at p2
  split at p2
  · rename_i bs eb
    have e := unBls_ok eb
    subst e
    have e := hr.bls'
    subst e
    exact ⟨t, bs, rfl, hs, Wants.bl p2 r1⟩
  · exact False.elim p2
theorem k_sum (F : Fc G C lvl c.fs) (g : Gx G lvl c X) (hgl : glB c "sum" = true) (hst : notStar a = true) (ha : OkE G Wx X sa a) :
    PE X (.Call (.Name "sum" p) [a] [] pos) (tV G Wx fun ℓ h => (sa.opd ℓ h).bind fun x h => (lsqO h x).bind fun ws h => bltL "sum" ws h) := by
  refine PE.imp (pe_callB (cr_sum g.calm) (g.gl hgl) (nm_blt F g (by decide)) (by decide +kernel) (a_one ha.o hst) (he := star_ok hst) (hpl := rfl)) fun σ H Q ⟨ι, hh, ℓ, r, lr, q⟩ => ?_
  refine ⟨ι, hh, ℓ, r, lr, q.bind.imp fun x h1 ι1 H1 s1 r1 p1 v hv => ?_⟩
  obtain ⟨t, vs, ws, rfl, hs, hr, p2⟩ := lsqO_ok r1 hv p1.bind
  rw [g.K]
  unfold bltL at p2
  rw [if_neg (by decide), if_neg (by decide), if_pos rfl] at p2
  split at p2
  · rename_i bs eb
    have e := unInts_ok eb
    subst e
    have e := hr.ints'
    subst e
    exact ⟨t, bs, rfl, hs, Wants.int p2 r1⟩
  · exact False.elim p2
/-- other names without a meaning here -/
theorem k_no (F : Fc G C lvl c.fs) (g : Gx G lvl c X) {f : Str} (hgl : glB c f = true) (hst : notStar a = true) (ha : OkE G Wx X sa a) (h : ¬ (f = "all" ∨ f = "any" ∨ f = "sum")) : ∀ ws h, bltL f ws h = .stuck := by
  intro ws hh
  unfold bltL
  rw [if_neg fun z => h (.inl z), if_neg fun z => h (.inr (.inl z)), if_neg fun z => h (.inr (.inr z))]
theorem k_tuple (F : Fc G C lvl c.fs) (g : Gx G lvl c X) (hgl : glB c "tuple" = true) (hst : notStar a = true) (ha : OkE G Wx X sa a) :
    PE X (.Call (.Name "tuple" p) [a] [] pos) (tV G Wx fun ℓ h => (sa.l ℓ h).bind fun ws h => .ok (.tup ws) h) := by
  refine PE.imp (pe_callTy call_tuple_of (g.gl hgl) (nm_blt F g (by decide)) (by decide +kernel) (a_one ha.s hst) (he := star_ok hst) (hpl := rfl)) fun σ H Q ⟨ι, hh, ℓ, r, lr, q⟩ => ?_
  refine ⟨ι, hh, ℓ, r, lr, q.bind.imp fun ws h1 ι1 H1 s1 r1 p1 t vs hs hr => ?_⟩
  rw [g.K]
  refine ⟨t, vs, rfl, ?_⟩
  rcases hs with hs | hs
  · exact .inl ⟨hs, fun l hl => p1 ι1 _ (Step.new hl) (r1.new hl) _ (.tup (.of upd_same) (hr.mono (Step.new hl)))⟩
  · exact .inr ⟨hs, p1.ok r1 _ (.tup hs hr)⟩
theorem k_list (F : Fc G C lvl c.fs) (g : Gx G lvl c X) (hgl : glB c "list" = true) (hst : notStar a = true) (ha : OkE G Wx X sa a) :
    PE X (.Call (.Name "list" p) [a] [] pos) (tL G Wx fun ℓ h => sa.l ℓ h) := by
  refine PE.imp (pe_callTy call_list_of (g.gl hgl) (nm_blt F g (by decide)) (by decide +kernel) (a_one ha.s hst) (he := star_ok hst) (hpl := rfl)) fun σ H Q ⟨ι, hh, ℓ, r, lr, q⟩ => ?_
  refine ⟨ι, hh, ℓ, r, lr, ?_⟩
  have q : Post G Wx σ ι H (sa.l ℓ hh) (fun ws h' ι' H' => ∀ (D : Addr) (vs : List V), H D = none → D ∉ ι' → H' D = some (.lst vs) → VRs G H' ι' ws vs → Q (.ref D) H') := q
  revert q
  cases sa.l ℓ hh with
  | stuck => exact fun q => q
  | exc x h' => exact fun q => q
  | ok ws h' =>
    intro q ι' H' s q2 t vs hs hr
    rw [g.K]
    refine ⟨t, vs, rfl, hs, fun l hl => ?_⟩
    have s2 : Step ι' H' ι' (upd H' l (.lst vs)) := Step.new hl
    exact q ι' _ (s.trans s2) (q2.new hl) l vs (s.back hl) (q2.fresh hl) upd_same (hr.mono s2)

/-! ### repr -/
theorem mapM_kv {f : W → Option PyData} {P : PyData → Prop} (hf : ∀ w d, f w = some d → P d) : ∀ {kvs : List (Key × W)} {ds : List (PyData × PyData)}, (kvs.mapM fun kv => (f kv.2).map fun d => (keyD kv.1, d)) = some ds → ∀ p ∈ ds, (∃ k, p.1 = keyD k) ∧ P p.2 := by
  intro kvs
  induction kvs with
  | nil =>
    intro ds e
    simp at e
    subst e
    exact fun p hp => absurd hp (by simp)
  | cons kv kvs ih =>
    intro ds e
    simp only [List.mapM_cons, Option.pure_def, Option.bind_eq_bind, Option.bind_eq_some_iff, Option.map_eq_some_iff] at e
    obtain ⟨_, ⟨d, e1, rfl⟩, ds', e2, e3⟩ := e
    cases e3
    intro p hp
    rcases List.mem_cons.mp hp with rfl | hp
    · exact ⟨⟨_, rfl⟩, hf _ _ e1⟩
    · exact ih e2 p hp
theorem depthKv_le {n : Nat} : ∀ {ds : List (PyData × PyData)}, (∀ p ∈ ds, (∃ k, p.1 = keyD k) ∧ p.2.depth ≤ n) → PyData.depthKv ds ≤ n
  | [], _ => Nat.zero_le _
  | (a, b) :: r, h => by
    obtain ⟨⟨k, e⟩, hb⟩ := h _ List.mem_cons_self
    have ih := depthKv_le (ds := r) fun p hp => h p (List.mem_cons_of_mem _ hp)
    dsimp only at e hb
    subst e
    have z : (keyD k).depth = 0 := by cases k <;> simp [keyD, PyData.depth]
    simp only [PyData.depthKv, z]
    omega
theorem toD_small {h : List O} : ∀ (n : Nat) {w : W} {d : PyData}, toD h n w = some d → d.depth ≤ n := by
  intro n
  induction n with
  | zero =>
    intro w d e
    cases w <;> simp [toD] at e <;> subst e <;> simp [PyData.depth]
  | succ n ih =>
    intro w d e
    have all : ∀ {ws : List W} {ds : List PyData}, ws.mapM (toD h n) = some ds → PyData.depthAll ds ≤ n := by
      intro ws
      induction ws with
      | nil =>
        intro ds e
        simp at e
        subst e
        simp [PyData.depthAll]
      | cons w ws ih2 =>
        intro ds e
        simp only [List.mapM_cons, Option.pure_def, Option.bind_eq_bind, Option.bind_eq_some_iff] at e
        obtain ⟨d, e1, ds', e2, e3⟩ := e
        cases e3
        have a1 := ih e1
        have b1 := ih2 e2
        simp only [PyData.depthAll]
        omega
    have kvs : ∀ {ws : List (Key × W)} {ds : List (PyData × PyData)}, (ws.mapM fun kv => (toD h n kv.2).map fun d => (keyD kv.1, d)) = some ds → PyData.depthKv ds ≤ n := fun e => depthKv_le (mapM_kv (f := toD h n) (P := fun d => d.depth ≤ n) (fun w d q => ih q) e)
    cases w with
    | tup ws =>
      rw [toD, Option.map_eq_some_iff] at e
      obtain ⟨ds, e1, rfl⟩ := e
      have a1 := all e1
      simp only [PyData.depth]
      omega
    | slst ws =>
      rw [toD, Option.map_eq_some_iff] at e
      obtain ⟨ds, e1, rfl⟩ := e
      have a1 := all e1
      simp only [PyData.depth]
      omega
    | sdct ws =>
      rw [toD, Option.map_eq_some_iff] at e
      obtain ⟨ds, e1, rfl⟩ := e
      have a1 := kvs e1
      simp only [PyData.depth]
      omega
    | ref i =>
      rw [toD] at e
      split at e
      · rw [Option.map_eq_some_iff] at e
        obtain ⟨ds, e1, rfl⟩ := e
        have a1 := all e1
        simp only [PyData.depth]
        omega
      · rw [Option.map_eq_some_iff] at e
        obtain ⟨ds, e1, rfl⟩ := e
        have a1 := kvs e1
        simp only [PyData.depth]
        omega
      · cases e
    | non => simp [toD] at e; subst e; simp [PyData.depth]
    | bl b => simp [toD] at e; subst e; simp [PyData.depth]
    | int i => simp [toD] at e; subst e; simp [PyData.depth]
    | str x => simp [toD] at e; subst e; simp [PyData.depth]
theorem datO_small {h : List O} {o : Opd} {d : PyData} (e : datO h o = some d) : d.depth ≤ dDepth + 1 := by
  cases o with
  | inr w =>
    have a1 := toD_small dDepth e
    omega
  | inl ws =>
    unfold datO at e
    rw [Option.map_eq_some_iff] at e
    obtain ⟨ds, e1, rfl⟩ := e
    have key : toD h (dDepth + 1) (.slst ws) = some (.list ds) := by rw [toD, e1]; rfl
    exact toD_small (dDepth + 1) key
theorem keyD_reads {P : Program} {w : World} {h : Heap} (k : Key) (key : Value) (e : (mixKind P w).is k key = true) : Reads h key (keyD k) [] := by
  rcases keyIs_shape (k := k) (v := key) e with ⟨i, t, rfl, rfl⟩ | ⟨x, t, rfl, rfl⟩
  · exact .int i t
  · exact .str x t
section
variable {pins : List (Addr × Obj)} {σ : L2.St} {H : Hp} {s : Shared}
mutual
theorem DR.reads (I : Inv X pins σ H s) (sm : SmT X.K H) : ∀ (d : PyData) (v : V) (u : Value), DR X.K H v d → RelV v u → ∃ as, Reads s.heap u d as ∧ sysModules ∉ as
  | .none, _, _, h, r => by
    cases h
    cases r
    exact ⟨_, Reads.none, by simp⟩
  | .bool b, _, _, h, r => by
    cases h
    cases r
    exact ⟨_, Reads.bool b, by simp⟩
  | .int i, _, _, h, r => by
    cases h
    obtain ⟨t, rfl⟩ := r
    exact ⟨_, Reads.int i t, by simp⟩
  | .str x, _, _, h, r => by
    cases h
    obtain ⟨t, rfl⟩ := r
    exact ⟨_, Reads.str x t, by simp⟩
  | .list ds, _, _, h, r => by
    cases h with
    | lst hs ha =>
      cases r
      obtain ⟨its, rv, ⟨o, n, ho, hc, _, hd⟩, _⟩ := I.list hs
      obtain ⟨as, hr, hn⟩ := DRs.reads I sm ds _ its ha rv
      refine ⟨_, Reads.list ho hc hd hr, fun hm => ?_⟩
      rcases List.mem_cons.mp hm with e | hm
      · have q : ∃ o2 es n2, s.heap.get? sysModules = some o2 ∧ o2.data = .dict es n2 := by
          rcases sm with ⟨o2, u2, es, n2, e1, e2⟩ | ⟨o2, es, n2, e1, e2⟩
          · obtain ⟨p, _⟩ := (show ObjOk X.prog X.w H s.heap sysModules (.frz o2 u2) from I.hok _ _ e1)
            exact ⟨o2, es, n2, p, e2⟩
          · exact ⟨o2, es, n2, I.kIn _ _ e1, e2⟩
        obtain ⟨o2, es, n2, e3, e4⟩ := q
        rw [← e] at ho
        rw [ho] at e3
        cases e3
        rw [hd] at e4
        cases e4
      · exact hn hm
  | .tuple ds, _, _, h, r => by
    cases h with
    | tup hs ha =>
      cases r
      obtain ⟨its, rv, ⟨o, ho, hc, n, hd⟩, _⟩ := I.tuple hs
      obtain ⟨as, hr, hn⟩ := DRs.reads I sm ds _ its ha rv
      exact ⟨_, Reads.tuple ho hc hd hr, hn⟩
  | .dict ds, _, _, h, r => by
    cases h with
    | dct hs ha =>
      cases r
      obtain ⟨_, hd, vs, rel, dd⟩ := dk_rd I.hok hs
      obtain ⟨bs, hr, hn⟩ := DRk.reads I sm ds _ vs ha rel
      refine ⟨_, PyProof.V.reads_dictOf (enc := keyD) (fun k key e => keyD_reads k key e) dd hr, fun hm => ?_⟩
      rcases List.mem_cons.mp hm with e | hm
      · rw [← e] at hd; simp at hd
      · exact hn hm
theorem DRs.reads (I : Inv X pins σ H s) (sm : SmT X.K H) : ∀ (ds : List PyData) (vs : List V) (us : List Value), DRs X.K H vs ds → Vals vs us → ∃ as, ReadsAll s.heap us ds as ∧ sysModules ∉ as
  | [], _, _, h, r => by
    cases h
    cases r
    exact ⟨_, ReadsAll.nil, by simp⟩
  | d :: ds, _, _, h, r => by
    cases h with
    | cons h1 h2 =>
      cases r with
      | cons r1 r2 =>
        obtain ⟨as, q1, n1⟩ := DR.reads I sm d _ _ h1 r1
        obtain ⟨bs, q2, n2⟩ := DRs.reads I sm ds _ _ h2 r2
        exact ⟨_, ReadsAll.cons q1 q2, by rw [List.mem_append]; exact fun z => z.elim n1 n2⟩
theorem DRk.reads (I : Inv X pins σ H s) (sm : SmT X.K H) : ∀ (ds : List (PyData × PyData)) (m : List (Key × V)) (vs : List (Key × Value)), DRk X.K H m ds → KV m vs → ∃ as, PyProof.V.PairsRead s.heap keyD vs ds as ∧ sysModules ∉ as
  | [], _, _, h, r => by
    cases h
    cases r
    exact ⟨_, .nil, by simp⟩
  | (_, d) :: ds, _, _, h, r => by
    cases h with
    | cons h1 h2 =>
      cases r with
      | @cons _ q _ _ r1 r2 =>
        obtain ⟨k, u⟩ := q
        obtain ⟨e1, r1⟩ := r1
        dsimp only at e1 r1
        subst e1
        obtain ⟨as, q1, n1⟩ := DR.reads I sm d _ _ h1 r1
        obtain ⟨bs, q2, n2⟩ := DRk.reads I sm ds _ _ h2 r2
        exact ⟨_, .cons q1 q2, by rw [List.mem_append]; exact fun z => z.elim n1 n2⟩
end
end
/-- repr of data -/
theorem call_reprD {K : PySem.W.Frag} (hK : X.K = K) (hg : X.A.guards = some []) (hu : X.A.units + 64 < cLine) : CallR X (.builtin "repr") (fun xs H Q => ∃ v d, xs = [v] ∧ DR K H v d ∧ SmT K H ∧ d.showable = true ∧ d.shown.length ≤ sizeLine ∧ d.depth ≤ 60 ∧ Q (.str d.shown) H) := by
  intro pins s σ H xs us Q I r h
  obtain ⟨v, d, rfl, hd, sm, h1, h2, h3, q⟩ := h
  rw [← hK] at hd sm
  obtain ⟨u, rfl, ru⟩ := vals1 r
  obtain ⟨as, rd, hn⟩ := DR.reads I sm d v u hd ru
  have fin : ∀ (h' : Heap) (k : Tok) (tk : Nat), (∀ b o, s.heap.get? b = some o → h'.get? b = some o) → EP X pins σ Q (.str d.shown k) { s with heap := h', toks := tk } := fun h' k tk hk =>
    ⟨.str d.shown, H, I.kept (t' := tk) hk, ⟨k, rfl⟩, q⟩
  cases hd with
  | non =>
    cases (show u = Value.none from ru)
    have z := fin s.heap s.toks (s.toks + 1) fun _ _ e => e
    simp only [PyData.shown] at z
    exact PySem.P.repr_of_none z
  | bl b =>
    cases (show u = Value.bool b from ru)
    have z := fin s.heap s.toks (s.toks + 1) fun _ _ e => e
    simp only [PyData.shown] at z
    exact PySem.P.repr_of_bool z
  | int i =>
    obtain ⟨t, rfl⟩ := ru
    have z := fin s.heap s.toks (s.toks + 1) fun _ _ e => e
    simp only [PyData.shown] at z
    exact PySem.P.repr_of_int (by simpa [PyData.showable] using h1) z
  | str x =>
    obtain ⟨t, rfl⟩ := ru
    have z := fin s.heap s.toks (s.toks + 1) fun _ _ e => e
    simp only [PyData.shown] at z
    exact PySem.P.repr_of_str z (by simpa only [PyData.shown] using h2)
  | lst hs ha =>
    rename_i q' xs ds
    cases (show u = Value.ref q' from ru)
    exact repr_of_reads' rd h1 (fun _ => hn) hg (by omega) (fun _ _ e => e) (fun h' k tk hk => fin h' k tk hk) h2
  | tup hs ha =>
    rename_i q' xs ds
    cases (show u = Value.ref q' from ru)
    exact repr_of_reads' rd h1 (fun _ => hn) hg (by omega) (fun _ _ e => e) (fun h' k tk hk => fin h' k tk hk) h2
  | dct hs ha =>
    rename_i q' xs ds
    cases (show u = Value.ref q' from ru)
    exact repr_of_reads' rd h1 (fun _ => hn) hg (by omega) (fun _ _ e => e) (fun h' k tk hk => fin h' k tk hk) h2
theorem k_repr (F : Fc G C lvl c.fs) (g : Gx G lvl c X) (hgl : glB c "repr" = true) (hst : notStar a = true) (ha : OkE G Wx X sa a) :
    PE X (.Call (.Name "repr" p) [a] [] pos) (tV G Wx fun ℓ h => (sa.opd ℓ h).bind fun x h => reprO h x) := by
  refine PE.imp (pe_callB (call_reprD g.K g.gd g.hu) (g.gl hgl) (nm_blt F g (by decide)) (by decide +kernel) (a_one ha.o hst) (he := star_ok hst) (hpl := rfl)) fun σ H Q ⟨ι, hh, ℓ, r, lr, q⟩ => ?_
  refine ⟨ι, hh, ℓ, r, lr, q.bind.imp fun x h1 ι1 H1 s1 r1 p1 v hv => ?_⟩
  unfold reprO at p1
  split at p1
  · rename_i dd ed
    obtain ⟨cz, p1⟩ := p1.chk
    rw [Bool.and_eq_true] at cz
    have a1 := datO_small ed
    exact ⟨v, dd, rfl, dp_opd r1 hv ed, r1.sm, cz.1, of_decide_eq_true cz.2, by simp only [dDepth] at a1; omega, Wants.str p1 r1⟩
  · exact False.elim p1
end
end MP
set_option maxRecDepth 100000
set_option maxHeartbeats 4000000
namespace MP
open PySem PySem.Spec PyProof.Rows L2
section
variable {G : Pg} {lvl : Nat} {c : Ctx} {X : Cx} {Wx : WX} {C : Cn} {a b d e : Expr} {es : List Expr} {pos p p2 apos : Pos} {sa sb sc : Sm}

/-! ### isinstance, of built-in types -/
theorem ty_of {ι : List Addr} {H : Hp} {h : List O} {w : W} {v : V} {t : String} (r : Rel G h ι H) (hv : VR G H ι w v) (e : wType w h = some t) : TyX G.K H v (.type t) ∧ t ∈ ["NoneType", "bool", "int", "str", "tuple", "list", "dict"] := by
  cases hv with
  | non => cases e; exact ⟨.base .non, by decide⟩
  | bl b => cases e; exact ⟨.base (.bl b), by decide⟩
  | int i => cases e; exact ⟨.base (.int i), by decide⟩
  | str x => cases e; exact ⟨.base (.str x), by decide⟩
  | tup hs hr =>
    cases e
    refine ⟨?_, by decide⟩
    rcases hs with (hs | ⟨o, hs⟩) | ⟨o, its, n, h1, h2, _⟩
    · exact .base (.tup hs)
    · exact .fTuple hs
    · exact .kTuple h1 h2
  | slst hs hr =>
    cases e
    refine ⟨?_, by decide⟩
    rcases hs with ⟨o, hs⟩ | ⟨o, its, n, h1, rfl, _⟩
    · exact .base (.frz hs)
    · exact .kList h1 rfl
  | sdct hs hr => cases e; exact ⟨.fDict hs, by decide⟩
  | ref ha =>
    dsimp only [wType] at e
    split at e
    · cases e
      obtain ⟨vs, h1, _⟩ := r.obj _ _ _ (by assumption) ha
      exact ⟨.base (.lst h1), by decide⟩
    · cases e
      obtain ⟨vs, h1, _⟩ := r.obj _ _ _ (by assumption) ha
      exact ⟨.base (.dK h1), by decide⟩
    · cases e
theorem kit7 : ∀ t ∈ ["NoneType", "bool", "int", "str", "tuple", "list", "dict"], ∀ T ∈ tyNames, kitB t T = some (isiB t T) := by decide +kernel
theorem boot7 : ∀ T ∈ tyNames, bootBuiltins (Str.ofString T) = some (.type T) ∧ Str.ofString T ≠ "__name__" ∧ (Str.ofString T == ("__debug__" : Str)) = false ∧ Str.ofString T ∈ bltNames := by decide +kernel
theorem e_tyName {T : String} (F : Fc G C lvl c.fs) (g : Gx G lvl c X) (hT : T ∈ tyNames) (hgl : glB c T = true) : PE X (.Name T pos) (tC (.ty T)) := by
  obtain ⟨h1, h2, h3, h4⟩ := boot7 T hT
  exact pe_bltn (g.gl hgl) (nm_blt F g h4) h1 rfl h2 h3
theorem isiW_one {ι : List Addr} {H : Hp} {h : List O} {w : W} {v : V} {T : String} {σ : L2.St} {Q : VK} (hT : T ∈ tyNames) (r : Rel G h ι H) (hv : VR G H ι w v) (q : Post G Wx σ ι H (isiW [T] w h) (Wants Q G)) : rIsi G.K [v, .ty T] H Q := by
  unfold isiW at q
  split at q
  · rename_i t et
    obtain ⟨h1, h2⟩ := ty_of r hv et
    have q2 := Wants.bl q r
    rw [List.any_cons, List.any_nil, Bool.or_false] at q2
    exact ⟨v, _, _, _, _, rfl, .ty T, h1, kit_ty (kit7 t h2 T hT), q2⟩
  · exact False.elim q
theorem k_isi1 {T : String} {m : Lo → List O → R W} (F : Fc G C lvl c.fs) (g : Gx G lvl c X) (hgl : glB c "isinstance" = true) (hst : notStar a = true) (ha : PE X a (tV G Wx m)) (hT : T ∈ tyNames) (hglT : glB c T = true) :
    PE X (.Call (.Name "isinstance" p) [a, .Name T p2] [] pos) (tV G Wx fun ℓ h => (m ℓ h).bind fun w h => isiW [T] w h) := by
  refine PE.imp (pe_callB call_isi (g.gl hgl) (nm_blt F g (by decide)) (by decide +kernel) (pa_cons ha (pa_cons (e_tyName F g hT hglT) pa_nil (by rfl)) (star_ok hst)) (he := star_ok hst) (hpl := by rfl)) fun σ H Q ⟨ι, hh, ℓ, r, lr, q⟩ => ?_
  refine ⟨ι, hh, ℓ, r, lr, q.bind.imp fun w h1 ι1 H1 s1 r1 p1 v hv => ?_⟩
  rw [g.K]
  exact isiW_one hT r1 hv p1
theorem kitAny7 {K : PySem.W.Frag} {t : String} (ht : t ∈ ["NoneType", "bool", "int", "str", "tuple", "list", "dict"]) : ∀ {Ts : List String}, (∀ T ∈ Ts, T ∈ tyNames) → PySem.W.kitAny K (.type t) (Ts.map Value.type) = some (Ts.any fun T => isiB t T)
  | [], _ => rfl
  | T :: Ts, h => by
    rw [List.map_cons, List.any_cons]
    have ih := kitAny7 (K := K) ht (Ts := Ts) fun x hx => h x (List.mem_cons_of_mem _ hx)
    refine kitAny_cons (kit_ty (kit7 t ht T (h T List.mem_cons_self))) (fun e => ?_) fun e => ?_
    · rw [ih, e, Bool.false_or]
    · rw [e, Bool.true_or]
theorem clsAll : ∀ (Ts : List String), Paired ClsV (Ts.map V.ty) (Ts.map Value.type)
  | [] => .nil
  | T :: Ts => .cons (.ty T) (clsAll Ts)
/-- several type names as a tuple's items -/
def tyExprs : List String → List Pos → List Expr
  | T :: Ts, q :: qs => .Name T q :: tyExprs Ts qs
  | _, _ => []
theorem pa_tys {Ts : List String} (F : Fc G C lvl c.fs) (g : Gx G lvl c X) : ∀ {qs : List Pos}, Ts.length = qs.length → (∀ T ∈ Ts, T ∈ tyNames ∧ glB c T = true) → PA X (tyExprs Ts qs) (fun _ H Q => Q (Ts.map V.ty) H) := by
  induction Ts with
  | nil =>
    intro qs hl h
    cases qs <;> exact PA.imp pa_nil fun σ H Q q => q
  | cons T Ts ih =>
    intro qs hl h
    cases qs with
    | nil => cases hl
    | cons q qs =>
      obtain ⟨h1, h2⟩ := h T List.mem_cons_self
      exact PA.imp (pa_cons (e_tyName F g h1 h2) (ih (by simpa using hl) fun x hx => h x (List.mem_cons_of_mem _ hx)) (by rfl)) fun σ H Q q => q
theorem k_isiT {Ts : List String} {qs : List Pos} {k : Nat} {m : Lo → List O → R W} (F : Fc G C lvl c.fs) (g : Gx G lvl c X) (hgl : glB c "isinstance" = true) (hst : notStar a = true) (ha : PE X a (tV G Wx m)) (hl : Ts.length = qs.length) (hn : Ts.length ≤ sizeLine)
    (hT : ∀ T ∈ Ts, T ∈ tyNames ∧ glB c T = true) :
    PE X (.Call (.Name "isinstance" p) [a, .Tuple (tyExprs Ts qs) k p2] [] pos) (tV G Wx fun ℓ h => (m ℓ h).bind fun w h => isiW Ts w h) := by
  refine PE.imp (pe_callB call_isiT (g.gl hgl) (nm_blt F g (by decide)) (by decide +kernel) (pa_cons ha (pa_cons (pe_tup (pa_tys F g hl hT)) pa_nil (by rfl)) (star_ok hst)) (he := star_ok hst) (hpl := by rfl)) fun σ H Q ⟨ι, hh, ℓ, r, lr, q⟩ => ?_
  refine ⟨ι, hh, ℓ, r, lr, q.bind.imp fun w h1 ι1 H1 s1 r1 p1 v hv => ?_⟩
  refine ⟨by rw [List.length_map]; exact hn, fun t ht => ?_⟩
  rw [g.K]
  have s2 : Step ι1 H1 ι1 (upd H1 t (.tup (Ts.map V.ty))) := Step.new ht
  have r2 := r1.new (o := .tup (Ts.map V.ty)) ht
  have hv2 := hv.mono s2
  have p2 := p1.later s2
  unfold isiW at p2
  split at p2
  · rename_i tn et
    obtain ⟨h2, h3⟩ := ty_of r2 hv2 et
    exact ⟨v, t, _, _, _, _, rfl, upd_same, clsAll Ts, h2, kitAny7 h3 fun T h => (hT T h).1, Wants.bl p2 r2⟩
  · exact False.elim p2

/-! ### displays of dicts -/
theorem key_of {ι : List Addr} {H : Hp} {w : W} {v : V} {k : Key} (hv : VR G H ι w v) (e : keyW w = some k) : v = kV k := by
  cases hv <;> cases e <;> rfl
theorem FR.any {κ : Type} {ι : List Addr} {H : Hp} {f : κ → Bool} : ∀ {ws : List (κ × W)} {vs : List (κ × V)}, FR G H ι ws vs → (ws.any fun kv => f kv.1) = (vs.any fun kv => f kv.1)
  | _, _, .nil => rfl
  | _, _, .cons _ t => by rw [List.any_cons, List.any_cons, FR.any t]
theorem FR.append {κ : Type} {ι : List Addr} {H : Hp} : ∀ {ws ws' : List (κ × W)} {vs vs' : List (κ × V)}, FR G H ι ws vs → FR G H ι ws' vs' → FR G H ι (ws ++ ws') (vs ++ vs')
  | _, _, _, _, .nil, q => q
  | _, _, _, _, .cons r t, q => .cons r (FR.append t q)
theorem FR.length {κ : Type} {ι : List Addr} {H : Hp} : ∀ {ws : List (κ × W)} {vs : List (κ × V)}, FR G H ι ws vs → ws.length = vs.length
  | _, _, .nil => rfl
  | _, _, .cons r t => by rw [List.length_cons, List.length_cons, FR.length t]
theorem FR.upd {ι : List Addr} {H : Hp} {k : Key} {w : W} {v : V} (q : VR G H ι w v) : ∀ {ws : List (Key × W)} {vs : List (Key × V)}, FR G H ι ws vs → FR G H ι (ws.map (fun kv => if kv.1 = k then (kv.1, w) else kv)) (vs.map (fun kv => if kv.1 = k then (kv.1, v) else kv))
  | _, _, .nil => .nil
  | _, _, .cons (x := x) h t => by
    rw [List.map_cons, List.map_cons]
    by_cases hx : x = k
    · dsimp only; rw [if_pos hx, if_pos hx]; exact .cons q (FR.upd q t)
    · dsimp only; rw [if_neg hx, if_neg hx]; exact .cons h (FR.upd q t)
theorem FR.put {ι : List Addr} {H : Hp} {ws : List (Key × W)} {vs : List (Key × V)} {k : Key} {w : W} {v : V} (r : FR G H ι ws vs) (q : VR G H ι w v) : FR G H ι (putW ws k w) (putK vs k v) := by
  unfold putW putK
  rw [FR.any (f := fun x => decide (x = k)) r]
  split
  · exact FR.upd q r
  · exact r.append (.cons q .nil)
theorem FR.merge {ι : List Addr} {H : Hp} : ∀ {more : List (Key × W)} {vmore : List (Key × V)} {ws : List (Key × W)} {vs : List (Key × V)}, FR G H ι more vmore → FR G H ι ws vs → FR G H ι (mergeW ws more) (mergeK vs vmore)
  | _, _, _, _, .nil, q => q
  | _ :: more, _ :: vmore, ws, vs, .cons (x := x) (w := w) (v := v) r t, q => by
    show FR G H ι (mergeW (putW ws x w) more) (mergeK (putK vs x v) vmore)
    exact FR.merge t (q.put r)
/-- the pairs of a display -/
def tD (G : Pg) (Wx : WX) (m : Lo → List O → R (List (Key × W))) : L2.St → Hp → (List (V × V) → Hp → Prop) → Prop := fun σ H Q => ∃ ι h ℓ, Rel G h ι H ∧ LR G H ι ℓ σ ∧ Post G Wx σ ι H (m ℓ h) fun ws _ ι' H' => ∀ kvs, FR G H' ι' ws kvs → Q (kvs.map fun kv => (kV kv.1, kv.2)) H'
structure PD (X : Cx) (pos : Pos) (keys : List (Option Expr)) (values : List Expr) (t : L2.St → Hp → (List (V × V) → Hp → Prop) → Prop) : Prop where
  run : ∃ trs, PPs X pos keys values trs ∧ ∀ σ H Q, t σ H Q → tPairs trs σ H Q
theorem d_nil : PD X pos [] [] (tD G Wx fun _ h => .ok [] h) := ⟨[], pps_nil, fun σ H Q ⟨ι, hh, ℓ, r, lr, p⟩ => p.ok r [] .nil⟩
theorem d_cons {ks : List (Option Expr)} {vs : List Expr} {mk mv : Lo → List O → R W} {mr : Lo → List O → R (List (Key × W))} (hk : PE X a (tV G Wx mk)) (hv : PE X b (tV G Wx mv)) (hr : PD X pos ks vs (tD G Wx mr)) :
    PD X pos (some a :: ks) (b :: vs) (tD G Wx fun ℓ h => (mk ℓ h).bind fun x h => (mv ℓ h).bind fun y h => match keyW x with
    | some k => (mr ℓ h).bind fun kvs h => .ok ((k, y) :: kvs) h
    | none => .stuck) := by
  obtain ⟨trs, h1, h2⟩ := hr
  refine ⟨_, pps_cons hk hv h1, fun σ H Q ⟨ι, hh, ℓ, r, lr, p⟩ => ?_⟩
  refine ⟨ι, hh, ℓ, r, lr, p.bind.imp fun x h1 ι1 H1 s1 r1 p1 u hu => ?_⟩
  refine ⟨ι1, h1, ℓ, r1, lr.mono s1, p1.bind.imp fun y h3 ι2 H2 s2 r2 p2 v hv => ?_⟩
  split at p2
  · rename_i k ek
    refine h2 _ _ _ ⟨ι2, h3, ℓ, r2, (lr.mono s1).mono s2, p2.bind.imp fun kvs h4 ι3 H3 s3 r3 p3 kvs' hkvs => ?_⟩
    have z := p3.ok r3 ((k, v) :: kvs') (.cons (hv.mono s3) hkvs)
    rw [key_of hu ek]
    exact z
  · exact False.elim p2
theorem FR.mon' {κ : Type} {ι ι' : List Addr} {H H' : Hp} (m : Mon ι H ι' H') : ∀ {ws : List (κ × W)} {vs : List (κ × V)}, FR G H ι ws vs → FR G H' ι' ws vs
  | _, _, .nil => .nil
  | _, _, .cons r t => .cons (r.mon m) (FR.mon' m t)
theorem e_dct0 : PE X (.Dict [] [] pos) (tV G Wx fun _ h => (R.ok [] h : R (List (Key × W))).bind fun kvs h => chk (decide (kvs.length ≤ 15)) (alloc (.dct (mergeW [] kvs)) h)) := by
  refine PE.imp pe_dnewK fun σ H Q ⟨ι, hh, ℓ, r, lr, p⟩ D hD => ?_
  have p : Post G Wx σ ι H (alloc (.dct []) hh) (Wants Q G) := p
  exact post_alloc p (r.new hD) hD (r.fresh hD) (Step.new hD) ⟨[], upd_same, .nil⟩
theorem e_dct {keys : List (Option Expr)} {values : List Expr} {m : Lo → List O → R (List (Key × W))} (hd : PD X pos keys values (tD G Wx m)) (hall : keys.all (·.isSome) = true) (hl : keys.length = values.length) (h0 : keys ≠ []) (h15 : keys.length ≤ 15) :
    PE X (.Dict keys values pos) (tV G Wx fun ℓ h => (m ℓ h).bind fun kvs h => chk (decide (kvs.length ≤ 15)) (alloc (.dct (mergeW [] kvs)) h)) := by
  obtain ⟨trs, h1, h2⟩ := hd
  refine PE.imp (pe_disp h1 hall hl h0 h15) fun σ H Q ⟨ι, hh, ℓ, r, lr, p⟩ D hD => ?_
  have s0 : Step ι H ι (upd H D (.dK [])) := Step.new hD
  refine h2 _ _ _ ⟨ι, hh, ℓ, r.new hD, lr.mono s0, ?_⟩
  have p : Post G Wx σ ι H ((m ℓ hh).bind fun kvs h => chk (decide (kvs.length ≤ 15)) (alloc (.dct (mergeW [] kvs)) h)) (Wants Q G) := p
  refine (p.bind0.later s0).imp fun kvs h' ι1 H1 s1 r1 p vs hvs => ?_
  · obtain ⟨cz, p⟩ := p.chk
    have nD : D ∉ ι := r.fresh hD
    have eD : H1 D = some (.dK []) := s1.keep D _ upd_same nD
    have nD1 : D ∉ ι1 := fun hm => by
      obtain ⟨t, et, ht⟩ := s1.ext
      rw [et] at hm
      rcases List.mem_append.mp hm with hm | hm
      · exact nD hm
      · have z := ht D hm; rw [upd_same] at z; cases z
    refine ⟨eD, vs, rfl, by rw [← hvs.length]; exact of_decide_eq_true cz, ?_⟩
    obtain ⟨s2, m2⟩ := (s0.trans s1).apart (o := .dK (mergeK [] vs)) hD eD (fun z => z)
    have r2 : Rel G h' ι1 (upd H1 D (.dK (mergeK [] vs))) := r1.mon m2 fun a ha => upd_ne fun z => nD1 (by rw [← z]; exact ha)
    have p2 := p
    obtain ⟨t, et, ht⟩ := s2.ext
    have s3 : Step ι H (ι1 ++ [D]) (upd H1 D (.dK (mergeK [] vs))) := by
      refine ⟨⟨t ++ [D], by rw [et, List.append_assoc], fun a ha => ?_⟩, s2.keep, s2.there, s2.fix⟩
      rcases List.mem_append.mp ha with ha | ha
      · exact ht a ha
      · rw [List.mem_singleton.mp ha]; exact hD
    have q2 : Rel G (h' ++ [.dct (mergeW [] kvs)]) (ι1 ++ [D]) (upd H1 D (.dK (mergeK [] vs))) := r2.alloc nD1 ⟨_, upd_same, FR.mon' mon_app (FR.mon' m2 (FR.merge hvs .nil))⟩ .refl
    have p3 : Post G Wx σ ι H (.ok (.ref h'.length) (h' ++ [.dct (mergeW [] kvs)])) (Wants Q G) := p
    refine p3 _ _ s3 q2 _ (.ref ?_)
    rw [List.getElem?_append_right (by rw [r2.len]; exact Nat.le_refl _), r2.len, Nat.sub_self]
    rfl

theorem e_frd0 : PE X (.Dict [] [] pos) (tV G Wx fun _ h => (R.ok [] h : R (List (Key × W))).bind fun kvs h => chk (decide (kvs.length ≤ 15)) (.ok (.sdct (mergeW [] kvs)) h)) := by
  refine PE.imp (PE.lock pe_dnewK) fun σ H Q ⟨ι, hh, ℓ, r, lr, p⟩ D hD => .inr ⟨D, _, upd_same, trivial, fun od => ?_⟩
  have p : Post G Wx σ ι H (.ok (.sdct []) hh) (Wants Q G) := p
  rw [upd_upd]
  exact p ι _ (Step.new hD) (r.new hD) _ (.sdct (m := []) upd_same .nil)
theorem e_frd {keys : List (Option Expr)} {values : List Expr} {m : Lo → List O → R (List (Key × W))} (hd : PD X pos keys values (tD G Wx m)) (hall : keys.all (·.isSome) = true) (hl : keys.length = values.length) (h0 : keys ≠ []) (h15 : keys.length ≤ 15) :
    PE X (.Dict keys values pos) (tV G Wx fun ℓ h => (m ℓ h).bind fun kvs h => chk (decide (kvs.length ≤ 15)) (.ok (.sdct (mergeW [] kvs)) h)) := by
  obtain ⟨trs, h1, h2⟩ := hd
  refine PE.imp (PE.lock (pe_disp h1 hall hl h0 h15)) fun σ H Q ⟨ι, hh, ℓ, r, lr, p⟩ D hD => ?_
  have s0 : Step ι H ι (upd H D (.dK [])) := Step.new hD
  refine h2 _ _ _ ⟨ι, hh, ℓ, r.new hD, lr.mono s0, ?_⟩
  have p : Post G Wx σ ι H ((m ℓ hh).bind fun kvs h => chk (decide (kvs.length ≤ 15)) (.ok (.sdct (mergeW [] kvs)) h)) (Wants Q G) := p
  refine (p.bind0.later s0).imp fun kvs h' ι1 H1 s1 r1 p vs hvs => ?_
  · obtain ⟨cz, p⟩ := p.chk
    have nD : D ∉ ι := r.fresh hD
    have eD : H1 D = some (.dK []) := s1.keep D _ upd_same nD
    have nD1 : D ∉ ι1 := fun hm => by
      obtain ⟨t, et, ht⟩ := s1.ext
      rw [et] at hm
      rcases List.mem_append.mp hm with hm | hm
      · exact nD hm
      · have z := ht D hm; rw [upd_same] at z; cases z
    refine ⟨eD, vs, rfl, by rw [← hvs.length]; exact of_decide_eq_true cz, .inr ⟨D, _, upd_same, trivial, fun od => ?_⟩⟩
    rw [upd_upd]
    obtain ⟨s2, m2⟩ := (s0.trans s1).apart (o := .frz od (.dK (mergeK [] vs))) hD eD (fun z => z)
    exact p ι1 _ s2 (r1.mon m2 fun a ha => upd_ne fun z => nD1 (by rw [← z]; exact ha)) _ (.sdct upd_same (FR.vk (FR.mon' m2 (FR.merge hvs .nil))))

/-! ### methods of texts and lists -/
theorem k_join {m : Lo → List O → R W} (g : Gx G lvl c X) (ha : PE X a (tV G Wx m)) (hb : OkE G Wx X sb b) (hs : notStar b = true) (hsup : notSup a = true) (hline : (apos.endLine == pos.line) = true) :
    PE X (.Call (.Attribute a "join" apos) [b] [] pos) (tV G Wx fun ℓ h => (m ℓ h).bind fun x h => match x with
      | .str a => (sb.l ℓ h).bind fun ws h => joinR a ws h
      | _ => .stuck) := by
  refine PE.imp (pe_join ha hb.s (hs := star_ok hs) (hbase := sup_ok hsup) (hline := hline)) fun σ H Q ⟨ι, hh, ℓ, r, lr, p⟩ => ?_
  refine ⟨ι, hh, ℓ, r, lr, p.bind.imp fun x h1 ι1 H1 s1 r1 p1 u hu => ?_⟩
  split at p1
  · rename_i z
    cases hu
    refine ⟨⟨z, rfl⟩, ι1, h1, ℓ, r1, lr.mono s1, p1.bind.imp fun ws h2 ι2 H2 s2 r2 p2 t vs hs hr => ?_⟩
    unfold joinR at p2
    split at p2
    · rename_i ys ey
      obtain ⟨cz, p2⟩ := p2.chk
      have e := unStrs_ok ey
      subst e
      have e := hr.strs'
      subst e
      rw [g.K]
      exact ⟨z, t, ys, rfl, rfl, hs, of_decide_eq_true cz, Wants.str p2 r2⟩
    · exact False.elim p2
  · exact False.elim p1
theorem k_append {ma mb : Lo → List O → R W} (g : Gx G lvl c X) (ha : PE X a (tV G Wx ma)) (hb : PE X b (tV G Wx mb)) (hs : notStar b = true) (hsup : notSup a = true) (hline : (apos.endLine == pos.line) = true) :
    PE X (.Call (.Attribute a "append" apos) [b] [] pos) (tV G Wx fun ℓ h => (ma ℓ h).bind fun x h => chk (isLst h x) ((mb ℓ h).bind fun w h => bmV "append" x [w] h)) := by
  have hst : ([b] : List Expr).all notStar = true := by rw [List.all_cons, hs]; rfl
  refine PE.imp (pe_bm PySem.F.plainAttrs_list PySem.F.slot_list_append PySem.F.type_list_append mt_append ha (pa_cons hb pa_nil (star_ok hs)) (hbase := sup_ok hsup) (hfew := by rw [stars_all hst]; rfl) (hline := hline) (hs := star_ok hs) (hplain := by rfl)) fun σ H Q ⟨ι, hh, ℓ, r, lr, p⟩ => ?_
  refine ⟨ι, hh, ℓ, r, lr, p.bind.imp fun x h1 ι1 H1 s1 r1 p1 u hu => ?_⟩
  obtain ⟨cz, p1⟩ := p1.chk
  have hl : ∃ n ws, x = .ref n ∧ h1[n]? = some (.lst ws) := by
    unfold isLst at cz
    split at cz
    · split at cz
      · exact ⟨_, _, rfl, by assumption⟩
      · exact absurd cz Bool.false_ne_true
    · exact absurd cz Bool.false_ne_true
  obtain ⟨n, ws, rfl, en⟩ := hl
  cases hu with
  | ref ha =>
    obtain ⟨vs, e1, _⟩ := r1.obj _ _ _ en ha
    refine ⟨.inl ⟨rfl, vs, .of e1⟩, ι1, h1, ℓ, r1, lr.mono s1, p1.bind.imp fun w h2 ι2 H2 s2 r2 p2 v hv => ?_⟩
    have p2 : Post G Wx σ ι2 H2 (appR (.ref n) w h2) (Wants Q G) := p2
    unfold appR at p2
    dsimp only at p2
    split at p2
    · rename_i ws2 en2
      obtain ⟨cz, p2⟩ := p2.chk
      have ha2 := s2.get ha
      obtain ⟨vs2, e2, hr2⟩ := r2.obj _ _ _ en2 ha2
      refine ⟨_, vs2, v, rfl, rfl, e2, by rw [← hr2.length]; exact of_decide_eq_true cz, ?_⟩
      have st : Step ι2 H2 ι2 (upd H2 _ (.lst (vs2 ++ [v]))) := Step.set (List.mem_of_getElem? ha2) e2 (fun z => z)
      obtain ⟨r3, s3⟩ := r2.set (o' := .lst (ws2 ++ [w])) (u' := .lst (vs2 ++ [v])) en2 ha2 e2 (fun z => z) ⟨_, upd_same, (hr2.append (.cons hv .nil)).mono st⟩
      exact p2 ι2 _ s3 r3 _ .non
    · exact False.elim p2
end
end MP
set_option maxRecDepth 100000
set_option maxHeartbeats 4000000
namespace MP
open PySem PySem.Spec PyProof.Rows L2
section
variable {G : Pg} {lvl : Nat} {c : Ctx} {X : Cx} {Wx : WX} {C : Cn} {a b d e tg : Expr} {es : List Expr} {pos p p2 apos : Pos} {sa sb sc : Sm}
abbrev WF : WX := fun _ _ _ _ => False
theorem Post.noX {α : Type} {σ σ' : L2.St} {ι : List Addr} {H : Hp} {r : R α} {k : α → List O → List Addr → Hp → Prop} (p : Post G Wx σ ι H (noX r) k) : Post G WF σ' ι H r k := by
  cases r with
  | ok a h => exact p
  | exc x h => exact False.elim p
  | stuck => exact p
theorem Post.anyX {α : Type} {σ σ' : L2.St} {ι : List Addr} {H : Hp} {r : R α} {k : α → List O → List Addr → Hp → Prop} (p : Post G WF σ ι H r k) : Post G Wx σ' ι H r k := by
  cases r with
  | ok a h => exact p
  | exc x h => exact fun ι' H' cls d s q x => False.elim (p ι' H' cls d s q x)
  | stuck => exact p
theorem Step.notin {ι ι' : List Addr} {H H' : Hp} (s : Step ι H ι' H') {D : Addr} (hD : H D ≠ none) (n : D ∉ ι) : D ∉ ι' := fun hm => by
  obtain ⟨t, et, ht⟩ := s.ext
  rw [et] at hm
  rcases List.mem_append.mp hm with hm | hm
  · exact n hm
  · exact hD (ht D hm)

/-! ### targets -/
/-- σ' is σ but at the slots T -/
structure Sle (T : List Nat) (σ σ' : L2.St) : Prop where
  len : σ'.length = σ.length
  out : ∀ j, j ∉ T → σ'[j]? = σ[j]?
theorem Sle.refl {T : List Nat} {σ : L2.St} : Sle T σ σ := ⟨rfl, fun _ _ => rfl⟩
theorem Sle.trans {T U : List Nat} {σ σ1 σ2 : L2.St} (a : Sle T σ σ1) (b : Sle U σ1 σ2) : Sle (T ++ U) σ σ2 :=
  ⟨b.len.trans a.len, fun j h => by rw [b.out j fun z => h (List.mem_append_right _ z), a.out j fun z => h (List.mem_append_left _ z)]⟩
theorem wipe_in {σ : L2.St} {j : Nat} : ∀ {vs : List Nat}, j ∈ vs → j < σ.length → (wipe σ vs)[j]? = some none
  | v :: vs, h, hl => by
    unfold wipe
    by_cases hv : v = j
    · subst hv
      rw [List.getElem?_set_self (by rw [wipe_length]; exact hl)]
    · rw [List.getElem?_set_ne hv]
      rcases List.mem_cons.mp h with h | h
      · exact absurd h.symm hv
      · exact wipe_in h hl
theorem Sle.wipe {T own : List Nat} {σ σ' : L2.St} (a : Sle T (wipe σ own) σ') (h : ∀ i ∈ T, i ∈ own) : L2.wipe σ' own = L2.wipe σ own := by
  have hl : σ'.length = σ.length := by rw [a.len, wipe_length]
  refine List.ext_getElem? fun j => ?_
  by_cases hj : j ∈ own
  · by_cases hlt : j < σ.length
    · rw [wipe_in hj hlt, wipe_in hj (by rw [hl]; exact hlt)]
    · rw [List.getElem?_eq_none (by rw [wipe_length]; omega), List.getElem?_eq_none (by rw [wipe_length]; omega)]
  · rw [wipe_out hj, a.out j fun z => hj (h j z)]
def tG (G : Pg) (T : List Nat) (m : Tg) : TG := fun v σ H Q => ∃ ι h ℓ w, Rel G h ι H ∧ LR G H ι ℓ σ ∧ VR G H ι w v ∧ Post G WF σ ι H (m w ℓ h) fun ℓ' _ ι' H' => ∀ σ', LR G H' ι' ℓ' σ' → Sle T σ σ' → Q σ' H'
def tGs (G : Pg) (T : List Nat) (m : Tgs) : TGs := fun vs σ H Q => ∃ ι h ℓ ws, Rel G h ι H ∧ LR G H ι ℓ σ ∧ VRs G H ι ws vs ∧ Post G WF σ ι H (m ws ℓ h) fun ℓ' _ ι' H' => ∀ σ', LR G H' ι' ℓ' σ' → Sle T σ σ' → Q σ' H'
theorem g_name {i : Nat} {x : Str} (g : Gx G lvl c X) (hN : c.N[i]? = some x) (hs : setB c x = true) : PG X (.Name x pos) (tG G [i] fun w ℓ h => .ok (ℓ.set i (some w)) h) := by
  obtain ⟨h1, h2⟩ := g.set hs
  refine PG.imp (pg_name (i := i) (by rw [g.N]; exact g.nd) (by rw [g.N]; exact hN) h1 h2) fun v σ H Q ⟨ι, hh, ℓ, w, r, lr, hv, p⟩ => ?_
  refine p.ok r _ (lr.set hv) ⟨by rw [List.length_set], fun j hj => ?_⟩
  rw [List.getElem?_set_ne (fun z => hj (by rw [z]; exact List.mem_singleton_self _))]
theorem gs_nil : PGs X [] (tGs G [] fun ws ℓ h => match ws with
    | [] => .ok ℓ h
    | _ => .stuck) := by
  refine PGs.imp pgs_nil fun vs σ H Q ⟨ι, hh, ℓ, ws, r, lr, hv, p⟩ => ?_
  cases hv with
  | nil => exact ⟨rfl, Post.ok (k := fun ℓ' _ ι' H' => ∀ σ', LR G H' ι' ℓ' σ' → Sle [] σ σ' → Q σ' H') p r _ lr .refl⟩
  | cons _ _ => exact False.elim p
theorem assign_ok {t : Expr} {ts : List Expr} {env : Env} (h : notStar t = true) : assignEach (t :: ts) env = (false, assign t env) :: assignEach ts env := by
  cases t <;> first | rfl | exact absurd h Bool.false_ne_true
theorem assign_len {env : Env} : ∀ {ts : List Expr}, ts.all notStar = true → (assignEach ts env).length = ts.length ∧ (assignEach ts env).findIdx? (·.1) = none
  | [], _ => ⟨rfl, rfl⟩
  | t :: ts, h => by
    rw [List.all_cons, Bool.and_eq_true] at h
    obtain ⟨h1, h2⟩ := assign_len (env := env) h.2
    rw [assign_ok h.1]
    refine ⟨by rw [List.length_cons, List.length_cons, h1], ?_⟩
    rw [List.findIdx?_cons, h2]
    rfl
theorem gs_cons {T U : List Nat} {m : Tg} {ms : Tgs} {ts : List Expr} (hs : notStar a = true) (ha : PG X a (tG G T m)) (hr : PGs X ts (tGs G U ms)) : PGs X (a :: ts) (tGs G (T ++ U) fun ws ℓ h => match ws with
    | w :: ws => (noX (m w ℓ h)).bind fun ℓ h => ms ws ℓ h
    | [] => .stuck) := by
  refine PGs.imp (pgs_cons ha hr (by rw [assign_ok hs]; rfl)) fun vs σ H Q ⟨ι, hh, ℓ, ws, r, lr, hv, p⟩ => ?_
  cases hv with
  | nil => exact False.elim p
  | @cons w v ws vs h1 h2 =>
    have p : Post G WF σ ι H ((noX (m w ℓ hh)).bind fun ℓ h => ms ws ℓ h) _ := p
    refine ⟨v, vs, rfl, ι, hh, ℓ, w, r, lr, h1, (Post.noX p.bind).imp fun ℓ1 h1' ι1 H1 s1 r1 p1 σ1 lr1 sl1 => ?_⟩
    refine ⟨ι1, h1', ℓ1, ws, r1, lr1, h2.mono s1, (Post.anyX p1).imp fun ℓ2 h2' ι2 H2 s2 r2 p2 σ2 lr2 sl2 => p2 σ2 lr2 (sl1.trans sl2)⟩
theorem PG.or {t t' : TG} (h : PG X tg t) (h' : PG X tg t') : PG X tg (fun v σ H Q => t v σ H Q ∨ t' v σ H Q) := ⟨fun pins s σ H v u Q I r q => by
  rcases q with q | q
  · exact h.run pins s σ H v u Q I r q
  · exact h'.run pins s σ H v u Q I r q⟩
theorem evts_len {m : Tgs} {n : Nat} : True := trivial
theorem g_tup {T : List Nat} {ms : Tgs} {ts : List Expr} {k : Nat} (g : Gx G lvl c X) (hst : ts.all notStar = true) (hlen : ∀ ws ℓ h, ws.length ≠ ts.length → ∀ σ ι H kk, ¬ Post G WF σ ι H (ms ws ℓ h) kk) (hr : PGs X ts (tGs G T ms)) : PG X (.Tuple ts k pos) (tG G T fun w ℓ h => match seqW h w with
    | some ws => ms ws ℓ h
    | none => .stuck) := by
  obtain ⟨e1, e2⟩ := assign_len (env := X.env) hst
  refine PG.imp (PG.or (pg_lst g.calm hr e1 e2) (pg_tup g.calm hr e1 e2)) fun v σ H Q ⟨ι, hh, ℓ, w, r, lr, hv, p⟩ => ?_
  have p : Post G WF σ ι H (match seqW hh w with
    | some ws => ms ws ℓ hh
    | none => .stuck) _ := p
  cases es : seqW hh w with
  | none => rw [es] at p; exact False.elim p
  | some ws =>
    rw [es] at p
    have p : Post G WF σ ι H (ms ws ℓ hh) _ := p
    obtain ⟨q, vs, rfl, hsq, hv2⟩ := seq_of r hv es
    have hl : ws.length = ts.length := by
      by_cases z : ws.length = ts.length
      · exact z
      · exact absurd p (hlen ws ℓ hh z σ ι H _)
    rw [g.K]
    rcases hsq with hsq | hsq
    · exact .inl ⟨q, vs, rfl, hsq, by rw [← hv2.length]; exact hl, ι, hh, ℓ, ws, r, lr, hv2, p⟩
    · exact .inr ⟨q, vs, rfl, hsq, by rw [← hv2.length]; exact hl, ι, hh, ℓ, ws, r, lr, hv2, p⟩
theorem g_sub {ma mb : Lo → List O → R W} (hs : notSlice b = true) (ha : PE X a (tV G Wx ma)) (hb : PE X b (tV G Wx mb)) :
    PG X (.Subscript a b pos) (tG G [] fun w ℓ h => (ma ℓ h).bind fun x h => (mb ℓ h).bind fun y h => (setSub x y w h).bind fun _ h => .ok ℓ h) := by
  refine PG.imp (pg_sub ha hb set_list (ha := by intro v; cases b <;> first | rfl | exact absurd hs Bool.false_ne_true)) fun v σ H Q ⟨ι, hh, ℓ, w, r, lr, hv, p⟩ => ?_
  refine ⟨ι, hh, ℓ, r, lr, (Post.anyX p.bind).imp fun x h1 ι1 H1 s1 r1 p1 u hu => ?_⟩
  refine ⟨ι1, h1, ℓ, r1, lr.mono s1, (Post.anyX p1.bind).imp fun y h2 ι2 H2 s2 r2 p2 z hz => ?_⟩
  have p3 := p2.bind
  unfold setSub at p3
  split at p3
  · rename_i n k
    split at p3
    · rename_i ws en
      split at p3
      · rename_i j ej
        cases hz
        cases (hu.mono s2) with
        | ref ha2 =>
          obtain ⟨vs2, e2, hr2⟩ := r2.obj _ _ _ en ha2
          refine ⟨_, vs2, k, j, rfl, rfl, e2, by rw [← hr2.length]; exact ej, ?_⟩
          have st : Step ι2 H2 ι2 (upd H2 _ (.lst (vs2.set j v))) := Step.set (List.mem_of_getElem? ha2) e2 (fun z => z)
          have hv2 := (hv.mono s1).mono s2
          obtain ⟨r3, s3⟩ := r2.set (o' := .lst (ws.set j w)) (u' := .lst (vs2.set j v)) en ha2 e2 (fun z => z) ⟨_, upd_same, VRs.set (hv2.mono st) j (hr2.mono st)⟩
          exact (p3 ι2 _ s3 r3).ok r3 _ ((lr.mono s1).mono (s2.trans s3)) .refl
      · exact False.elim p3
    · exact False.elim p3
  · exact False.elim p3

/-! ### what is walked -/
structure WalkW (G : Pg) (J : It) (ws : List W) (gs : Gd) (ι0 : List Addr) (H0 : Hp) : Prop where
  goes : ∀ (i : Nat) (w : W) (h : List O) (ι : List Addr) (H : Hp), Step ι0 H0 ι H → Rel G h ι H → gsOk h gs = true → ws[i]? = some w → J.go i H
  stops : ∀ (h : List O) (ι : List Addr) (H : Hp), Step ι0 H0 ι H → Rel G h ι H → gsOk h gs = true → J.stop ws.length H
  yields : ∀ (i : Nat) (w : W) (h : List O) (ι : List Addr) (H : Hp) (x : V) (H' : Hp), Step ι0 H0 ι H → Rel G h ι H → gsOk h gs = true → ws[i]? = some w → J.yld i H x H' → Step ι H ι H' ∧ Rel G h ι H' ∧ VR G H' ι w x
def tI (G : Pg) (Wx : WX) (m : Lo → List O → R (List W × Gd)) : TI := fun σ H R => ∃ ι h ℓ, Rel G h ι H ∧ LR G H ι ℓ σ ∧ Post G Wx σ ι H (m ℓ h) fun r _ ι0 H0 => ∀ J, WalkW G J r.1 r.2 ι0 H0 → R J H0
/-- a list, as long as it stands -/
def Keeps (G : Pg) (H0 : Hp) (ι0 : List Addr) (gs : Gd) (q : Addr) (ws : List W) (P : Hp → List V → Prop) : Prop :=
  ∀ (h : List O) (ι : List Addr) (H : Hp), Step ι0 H0 ι H → Rel G h ι H → gsOk h gs = true → ∃ vs, P H vs ∧ VRs G H ι ws vs
theorem gsOk_mem {h : List O} {gs : Gd} {n : Nat} {ws : List W} (e : gsOk h gs = true) (m : (n, ws) ∈ gs) : h[n]? = some (.lst ws) := by
  have z := List.all_eq_true.mp e _ m
  unfold gOk at z
  dsimp only at z
  split at z
  · rename_i ws' ew
    rw [ew, W.beqs_eq z]
  · exact absurd z Bool.false_ne_true
/-- an operand that is walked: a list -/
theorem keeps_list {ι0 : List Addr} {H0 : Hp} {h0 : List O} {o : Opd} {v : V} {st : Bool} {σ : L2.St} {k : List W × Gd → List O → List Addr → Hp → Prop} (ho : OpdR G H0 ι0 o v) (r0 : Rel G h0 ι0 H0)
    (p : Post G Wx σ ι0 H0 (seqO st h0 o) k) : (∃ ws gs, k (ws, gs) h0 ι0 H0 ∧ tupO o = false ∧ ∃ q vs0, v = .ref q ∧ SqL G.K H0 q vs0 ∧ ∀ gs', (∀ x : Nat × List W, x ∈ gs → x ∈ gs') → Keeps G H0 ι0 gs' q ws (fun H vs => SqL G.K H q vs))
    ∨ (∃ ws gs, k (ws, gs) h0 ι0 H0 ∧ tupO o = true ∧ ∃ q vs0, v = .ref q ∧ SqT G.K H0 q vs0 ∧ ∀ gs', Keeps G H0 ι0 gs' q ws (fun H vs => SqT G.K H q vs))
    ∨ (st = true ∧ ∃ x, v = .str x ∧ k (chars x, []) h0 ι0 H0) := by
  unfold seqO at p
  split at p
  · obtain ⟨D, vs, rfl, eD, nD, hr⟩ := ho
    exact .inl ⟨_, _, p.ok r0, rfl, D, vs, rfl, .of eD, fun gs' _ h ι H s r _ => ⟨vs, .of (s.keep D _ eD nD), hr.mono s⟩⟩
  · cases (show VR G H0 ι0 _ v from ho) with
    | tup hs hr => exact .inr (.inl ⟨_, _, p.ok r0, rfl, _, _, rfl, hs, fun gs' h ι H s r _ => ⟨_, s.sqT hs, hr.mono s⟩⟩)
  · cases (show VR G H0 ι0 _ v from ho) with
    | slst hs hr => exact .inl ⟨_, _, p.ok r0, rfl, _, _, rfl, hs.sql, fun gs' _ h ι H s r _ => ⟨_, (s.stL hs).sql, hr.mono s⟩⟩
  · cases (show VR G H0 ι0 _ v from ho) with
    | str x =>
      cases st with
      | true => exact .inr (.inr ⟨rfl, _, rfl, p.ok r0⟩)
      | false => exact False.elim p
  · cases (show VR G H0 ι0 _ v from ho) with
    | ref ha =>
      split at p
      · rename_i ws en
        obtain ⟨vs, h1, h2⟩ := r0.sql en ha
        refine .inl ⟨_, _, p.ok r0, rfl, _, vs, rfl, h1, fun gs' hg h ι H s r e => ?_⟩
        exact r.sql (gsOk_mem e (hg _ (List.mem_singleton_self _))) (s.get ha)
      · exact False.elim p
  · exact False.elim p
theorem walk_itl {ι0 : List Addr} {H0 : Hp} {ws : List W} {gs : Gd} {q : Addr} (hk : Keeps G H0 ι0 gs q ws (fun H vs => SqL G.K H q vs)) : WalkW G (Itl G.K q) ws gs ι0 H0 := by
  refine ⟨fun i w h ι H s r e ew => ?_, fun h ι H s r e => ?_, fun i w h ι H x H' s r e ew y => ?_⟩
  · obtain ⟨vs, h1, h2⟩ := hk h ι H s r e
    obtain ⟨v, e1, _⟩ := h2.get ew
    exact ⟨vs, v, h1, e1⟩
  · obtain ⟨vs, h1, h2⟩ := hk h ι H s r e
    exact ⟨vs, h1, by rw [h2.length]; exact Nat.le_refl _⟩
  · obtain ⟨vs, h1, h2⟩ := hk h ι H s r e
    obtain ⟨v, e1, e2⟩ := h2.get ew
    obtain ⟨rfl, y⟩ := y
    have z := y vs h1
    rw [e1] at z
    cases z
    exact ⟨.refl, r, e2⟩
theorem walk_itt {ι0 : List Addr} {H0 : Hp} {ws : List W} {gs : Gd} {q : Addr} (hk : Keeps G H0 ι0 gs q ws (fun H vs => SqT G.K H q vs)) : WalkW G (Itt G.K q) ws gs ι0 H0 := by
  refine ⟨fun i w h ι H s r e ew => ?_, fun h ι H s r e => ?_, fun i w h ι H x H' s r e ew y => ?_⟩
  · obtain ⟨vs, h1, h2⟩ := hk h ι H s r e
    obtain ⟨v, e1, _⟩ := h2.get ew
    exact ⟨vs, v, h1, e1⟩
  · obtain ⟨vs, h1, h2⟩ := hk h ι H s r e
    exact ⟨vs, h1, by rw [h2.length]; exact Nat.le_refl _⟩
  · obtain ⟨vs, h1, h2⟩ := hk h ι H s r e
    obtain ⟨v, e1, e2⟩ := h2.get ew
    obtain ⟨rfl, y⟩ := y
    have z := y vs h1
    rw [e1] at z
    cases z
    exact ⟨.refl, r, e2⟩
theorem walk_its {ι0 : List Addr} {H0 : Hp} {gs : Gd} {z : Str} : WalkW G (Its z) (chars z) gs ι0 H0 := by
  refine ⟨fun i w h ι H s r e ew => ?_, fun h ι H s r e => ?_, fun i w h ι H x H' s r e ew y => ?_⟩
  · have := (List.getElem?_eq_some_iff.mp ew).1
    unfold chars at this
    rw [List.length_map, Array.length_toList] at this
    exact this
  · show z.cps.size ≤ _
    unfold chars
    rw [List.length_map, Array.length_toList]
    exact Nat.le_refl _
  · obtain ⟨rfl, cc, e1, rfl⟩ := y
    refine ⟨.refl, r, ?_⟩
    unfold chars at ew
    rw [List.getElem?_map, Array.getElem?_toList, e1] at ew
    cases ew
    exact .str _
def iSeq (K : PySem.W.Frag) (tl : TE) : TI := fun σ H R => tl σ H fun x H1 => (∃ a, x = .ref a ∧ (∃ xs, SqL K H1 a xs) ∧ R (Itl K a) H1) ∨ (∃ a, x = .ref a ∧ (∃ xs, SqT K H1 a xs) ∧ R (Itt K a) H1) ∨ ∃ z, x = .str z ∧ R (Its z) H1
theorem pi_seq {l : Expr} {tl : TE} (hl : PE X l tl) : PI X tg l (iSeq X.K tl) := by
  refine ⟨fun pins s σ H R I h => ?_⟩
  refine thn (hl.run pins s σ H _ I h) fun v s1 ⟨x, H1, I1, r1, q1⟩ => ?_
  rcases q1 with ⟨a, e, ⟨xs, hq⟩, q⟩ | ⟨a, e, ⟨xs, hq⟩, q⟩ | ⟨z, e, q⟩
  · subst e
    cases r1
    obtain ⟨its, rv, p, hz⟩ := I1.list hq
    refine wpAny_pyIter_list p.isList ?_
    refine ⟨s1.heap.objs.size, [s1.heap.objs.size], _, _, H1, rfl, I1.kept (t' := s1.toks) fun b o e => Heap.get?_push_of_some _ e, turn_list a _, ⟨_, Heap.get?_push_size _ rfl, rfl, rfl⟩, fun b hb => ?_, q⟩
    have e : b = s1.heap.objs.size := by simpa using hb
    subst e
    exact I1.fpOk (Nat.le_refl _) (I1.hok.fresh (Nat.le_refl _))
  · subst e
    cases r1
    obtain ⟨its, rv, p, hz⟩ := I1.tuple hq
    refine wpAny_pyIter_tuple (show s1.heap.IsTuple a its.toArray from p) ?_
    refine ⟨s1.heap.objs.size, [s1.heap.objs.size], _, _, H1, rfl, I1.kept (t' := s1.toks) fun b o e => Heap.get?_push_of_some _ e, turn_tuple a _, ⟨_, Heap.get?_push_size _ rfl, rfl, rfl⟩, fun b hb => ?_, q⟩
    have e : b = s1.heap.objs.size := by simpa using hb
    subst e
    exact I1.fpOk (Nat.le_refl _) (I1.hok.fresh (Nat.le_refl _))
  · subst e
    obtain ⟨t, rfl⟩ := r1
    cases ha : z.cps.all (· < 128)
    · exact wpAny_pyIter_wide ha (pi_one (tk := s1.toks) I1 _ (turn_str _ z t "str_iterator" (.inr rfl)) ⟨_, Heap.get?_push_size _ rfl, rfl, rfl⟩ q)
    · exact wpAny_pyIter_ascii ha (pi_one (tk := s1.toks) I1 _ (turn_str _ z t "str_ascii_iterator" (.inl rfl)) ⟨_, Heap.get?_push_size _ rfl, rfl, rfl⟩ q)
theorem i_val (g : Gx G lvl c X) (ha : OkE G Wx X sa a) : PI X tg a (tI G Wx fun ℓ h => (sa.opd ℓ h).bind fun x h => seqO true h x) := by
  refine PI.imp (pi_seq ha.o) fun σ H R ⟨ι, hh, ℓ, r, lr, p⟩ => ?_
  refine ⟨ι, hh, ℓ, r, lr, (Post.bind p).imp fun x h1 ι1 H1 s1 r1 p1 v hv => ?_⟩
  rw [g.K]
  rcases keeps_list hv r1 p1 with ⟨ws, gs, k, _, q, vs, rfl, h1, h2⟩ | ⟨ws, gs, k, _, q, vs, rfl, h1, h2⟩ | ⟨_, x, rfl, k⟩
  · exact .inl ⟨q, rfl, ⟨vs, h1⟩, k _ (walk_itl (h2 gs fun x hx => hx))⟩
  · exact .inr (.inl ⟨q, rfl, ⟨vs, h1⟩, k _ (walk_itt (h2 gs))⟩)
  · exact .inr (.inr ⟨x, rfl, k _ walk_its⟩)
theorem walk_itr {ι0 : List Addr} {H0 : Hp} {gs : Gd} {lo : Int} {n : Nat} : WalkW G (Itr lo n) (rngL lo n) gs ι0 H0 := by
  have hl : (rngL lo n).length = n := by unfold rngL; simp
  refine ⟨fun i w h ι H s r e ew => ?_, fun h ι H s r e => ?_, fun i w h ι H x H' s r e ew y => ?_⟩
  · have := (List.getElem?_eq_some_iff.mp ew).1
    rw [hl] at this
    exact this
  · rw [hl]; exact Nat.le_refl _
  · obtain ⟨rfl, rfl⟩ := y
    refine ⟨.refl, r, ?_⟩
    have hi := (List.getElem?_eq_some_iff.mp ew).1
    rw [hl] at hi
    unfold rngL at ew
    rw [List.getElem?_map, List.getElem?_range hi] at ew
    cases ew
    exact .int _
theorem rng_of {i : Int} (h : rngOk i = true) : -(2 ^ 62) ≤ i ∧ i < 2 ^ 62 := of_decide_eq_true h
theorem i_range1 {m : Lo → List O → R W} (F : Fc G C lvl c.fs) (g : Gx G lvl c X) (hgl : glB c "range" = true) (hst : notStar a = true) (ha : PE X a (tV G Wx m)) :
    PI X tg (.Call (.Name "range" p) [a] [] pos) (tI G Wx fun ℓ h => ((m ℓ h).bind fun w h => (R.ok [] h : R (List W)).bind fun ws h => .ok (w :: ws) h).bind fun ws h => rngM ws h) := by
  refine PI.imp (pi_range1 (g.gl hgl) (nm_blt F g (by decide)) (pa_cons ha pa_nil (star_ok hst)) (hs := star_ok hst)) fun σ H R' ⟨ι, hh, ℓ, r, lr, p⟩ => ?_
  refine ⟨ι, hh, ℓ, r, lr, (Post.bind (Post.bind p)).imp fun w h1 ι1 H1 s1 r1 p1 v hv => ?_⟩
  have p1 : Post G Wx σ ι1 H1 (rngM [w] h1) (fun r _ ι0 H0 => ∀ J, WalkW G J r.1 r.2 ι0 H0 → R' J H0) := Post.ok (a := [w]) p1 r1
  unfold rngM at p1
  cases hv <;> first
    | exact False.elim p1
    | skip
  obtain ⟨cz, p1⟩ := Post.chk p1
  obtain ⟨c1, c2⟩ := rng_of cz
  exact ⟨_, rfl, c1, c2, p1.ok r1 _ walk_itr⟩
theorem i_range2 {m n : Lo → List O → R W} (F : Fc G C lvl c.fs) (g : Gx G lvl c X) (hgl : glB c "range" = true) (hst : notStar a = true) (hst2 : notStar b = true) (ha : PE X a (tV G Wx m)) (hb : PE X b (tV G Wx n)) :
    PI X tg (.Call (.Name "range" p) [a, b] [] pos) (tI G Wx fun ℓ h => ((m ℓ h).bind fun w h => ((n ℓ h).bind fun w h => (R.ok [] h : R (List W)).bind fun ws h => .ok (w :: ws) h).bind fun ws h => .ok (w :: ws) h).bind fun ws h => rngM ws h) := by
  refine PI.imp (pi_range2 (g.gl hgl) (nm_blt F g (by decide)) (pa_cons ha (pa_cons hb pa_nil (star_ok hst2)) (star_ok hst)) (hs := by rw [star_ok hst, star_ok hst2]; rfl) (hs2 := by rw [star_ok hst2]; rfl)) fun σ H R' ⟨ι, hh, ℓ, r, lr, p⟩ => ?_
  refine ⟨ι, hh, ℓ, r, lr, (Post.bind (Post.bind p)).imp fun w h1 ι1 H1 s1 r1 p1 v hv => ?_⟩
  refine ⟨ι1, h1, ℓ, r1, lr.mono s1, (Post.bind (Post.bind p1)).imp fun w2 h2 ι2 H2 s2 r2 p2 u hu => ?_⟩
  have p2 : Post G Wx σ ι2 H2 (rngM [w, w2] h2) (fun r _ ι0 H0 => ∀ J, WalkW G J r.1 r.2 ι0 H0 → R' J H0) := Post.ok (Post.ok (a := [w2]) p2 r2) r2
  unfold rngM at p2
  cases hv <;> first
    | exact False.elim p2
    | skip
  cases hu <;> first
    | exact False.elim p2
    | skip
  obtain ⟨cz, p2⟩ := Post.chk p2
  rw [Bool.and_eq_true] at cz
  obtain ⟨c1, c2⟩ := rng_of cz.1
  obtain ⟨c3, c4⟩ := rng_of cz.2
  exact ⟨_, _, rfl, ⟨c1, c2, c3, c4⟩, p2.ok r2 _ walk_itr⟩
theorem Keeps.mono {H0 H1 : Hp} {ι0 ι1 : List Addr} {gs : Gd} {q : Addr} {ws : List W} {P : Hp → List V → Prop} (k : Keeps G H0 ι0 gs q ws P) (s : Step ι0 H0 ι1 H1) : Keeps G H1 ι1 gs q ws P := fun h ι H s2 r e => k h ι H (s.trans s2) r e
theorem zip_get {xs ys : List W} {i : Nat} {w : W} : (zipW xs ys)[i]? = some w → ∃ x y, xs[i]? = some x ∧ ys[i]? = some y ∧ w = .tup [x, y] := by
  induction xs generalizing ys i with
  | nil => intro h; simp [zipW] at h
  | cons x xs ih =>
    cases ys with
    | nil => intro h; simp [zipW] at h
    | cons y ys =>
      intro h
      cases i with
      | zero => simp [zipW] at h; exact ⟨x, y, rfl, rfl, h.symm⟩
      | succ i => exact ih (by simpa [zipW] using h)
theorem zip_len {xs ys : List W} : xs.length ≤ (zipW xs ys).length ∨ ys.length ≤ (zipW xs ys).length := by
  induction xs generalizing ys with
  | nil => exact .inl (Nat.zero_le _)
  | cons x xs ih =>
    cases ys with
    | nil => exact .inr (Nat.zero_le _)
    | cons y ys =>
      simp only [zipW, List.length_cons]
      rcases ih (ys := ys) with h | h
      · exact .inl (by omega)
      · exact .inr (by omega)
theorem pair_new {h : List O} {ι : List Addr} {H : Hp} {T : Addr} {x y : V} {w w2 : W} (r : Rel G h ι H) (hT : H T = none) (hx : VR G H ι w x) (hy : VR G H ι w2 y) :
    Step ι H ι (upd H T (.tup [x, y])) ∧ Rel G h ι (upd H T (.tup [x, y])) ∧ VR G (upd H T (.tup [x, y])) ι (.tup [w, w2]) (.ref T) :=
  ⟨Step.new hT, r.new hT, .tup (.of upd_same) (.cons (hx.mono (Step.new hT)) (.cons (hy.mono (Step.new hT)) .nil))⟩
theorem walk_zip {ι0 : List Addr} {H0 : Hp} {xs ys : List W} {gs : Gd} {q q2 : Addr} (h1 : Keeps G H0 ι0 gs q xs (fun H vs => SqL G.K H q vs)) (h2 : Keeps G H0 ι0 gs q2 ys (fun H vs => SqL G.K H q2 vs)) : WalkW G (Itz G.K q q2) (zipW xs ys) gs ι0 H0 := by
  refine ⟨fun i w h ι H s r e ew => ?_, fun h ι H s r e => ?_, fun i w h ι H x H' s r e ew y => ?_⟩
  · obtain ⟨vs, a1, a2⟩ := h1 h ι H s r e
    obtain ⟨us, b1, b2⟩ := h2 h ι H s r e
    obtain ⟨x, y, e1, e2, rfl⟩ := zip_get ew
    obtain ⟨v, c1, _⟩ := a2.get e1
    obtain ⟨u, d1, _⟩ := b2.get e2
    exact ⟨vs, us, v, u, a1, b1, c1, d1⟩
  · obtain ⟨vs, a1, a2⟩ := h1 h ι H s r e
    obtain ⟨us, b1, b2⟩ := h2 h ι H s r e
    refine ⟨vs, us, a1, b1, ?_⟩
    rw [← a2.length, ← b2.length]
    exact zip_len
  · obtain ⟨vs, a1, a2⟩ := h1 h ι H s r e
    obtain ⟨us, b1, b2⟩ := h2 h ι H s r e
    obtain ⟨x', y', e1, e2, rfl⟩ := zip_get ew
    obtain ⟨v, c1, c2⟩ := a2.get e1
    obtain ⟨u, d1, d2⟩ := b2.get e2
    obtain ⟨T, xv, yv, rfl, hT, rfl, z1, z2⟩ := y
    have z1 := z1 vs a1
    rw [c1] at z1; cases z1
    have z2 := z2 us b1
    rw [d1] at z2; cases z2
    exact pair_new r hT c2 d2
theorem walk_zipT {ι0 : List Addr} {H0 : Hp} {xs ys : List W} {gs : Gd} {q q2 : Addr} (h1 : Keeps G H0 ι0 gs q xs (fun H vs => SqT G.K H q vs)) (h2 : Keeps G H0 ι0 gs q2 ys (fun H vs => SqT G.K H q2 vs)) : WalkW G (RZ.ItzT G.K q q2) (zipW xs ys) gs ι0 H0 := by
  refine ⟨fun i w h ι H s r e ew => ?_, fun h ι H s r e => ?_, fun i w h ι H x H' s r e ew y => ?_⟩
  · obtain ⟨vs, a1, a2⟩ := h1 h ι H s r e
    obtain ⟨us, b1, b2⟩ := h2 h ι H s r e
    obtain ⟨x, y, e1, e2, rfl⟩ := zip_get ew
    obtain ⟨v, c1, _⟩ := a2.get e1
    obtain ⟨u, d1, _⟩ := b2.get e2
    exact ⟨vs, us, v, u, a1, b1, c1, d1⟩
  · obtain ⟨vs, a1, a2⟩ := h1 h ι H s r e
    obtain ⟨us, b1, b2⟩ := h2 h ι H s r e
    refine ⟨vs, us, a1, b1, ?_⟩
    rw [← a2.length, ← b2.length]
    exact zip_len
  · obtain ⟨vs, a1, a2⟩ := h1 h ι H s r e
    obtain ⟨us, b1, b2⟩ := h2 h ι H s r e
    obtain ⟨x', y', e1, e2, rfl⟩ := zip_get ew
    obtain ⟨v, c1, c2⟩ := a2.get e1
    obtain ⟨u, d1, d2⟩ := b2.get e2
    obtain ⟨T, xv, yv, rfl, hT, rfl, z1, z2⟩ := y
    have z1 := z1 vs a1
    rw [c1] at z1; cases z1
    have z2 := z2 us b1
    rw [d1] at z2; cases z2
    exact pair_new r hT c2 d2
theorem enum_get {xs : List W} {k i : Nat} {w : W} : (enumW k xs)[i]? = some w → ∃ x, xs[i]? = some x ∧ w = .tup [.int ((k + i : Nat) : Int), x] := by
  induction xs generalizing k i with
  | nil => intro h; simp [enumW] at h
  | cons x xs ih =>
    intro h
    cases i with
    | zero => simp [enumW] at h; exact ⟨x, rfl, h.symm⟩
    | succ i =>
      obtain ⟨y, h1, h2⟩ := ih (k := k + 1) (i := i) (by simpa [enumW] using h)
      exact ⟨y, h1, by rw [h2, show k + 1 + i = k + (i + 1) by omega]⟩
theorem enum_len {xs : List W} {k : Nat} : (enumW k xs).length = xs.length := by
  induction xs generalizing k with
  | nil => rfl
  | cons x xs ih => simp [enumW, ih]
theorem walk_enum {ι0 : List Addr} {H0 : Hp} {xs : List W} {gs : Gd} {q : Addr} (h1 : Keeps G H0 ι0 gs q xs (fun H vs => SqL G.K H q vs)) : WalkW G (Ite G.K q) (enumW 0 xs) gs ι0 H0 := by
  refine ⟨fun i w h ι H s r e ew => ?_, fun h ι H s r e => ?_, fun i w h ι H x H' s r e ew y => ?_⟩
  · obtain ⟨vs, a1, a2⟩ := h1 h ι H s r e
    obtain ⟨x, e1, rfl⟩ := enum_get ew
    obtain ⟨v, c1, _⟩ := a2.get e1
    exact ⟨vs, v, a1, c1⟩
  · obtain ⟨vs, a1, a2⟩ := h1 h ι H s r e
    exact ⟨vs, a1, by rw [enum_len, a2.length]; exact Nat.le_refl _⟩
  · obtain ⟨vs, a1, a2⟩ := h1 h ι H s r e
    obtain ⟨x', e1, rfl⟩ := enum_get ew
    obtain ⟨v, c1, c2⟩ := a2.get e1
    obtain ⟨T, xv, rfl, hT, rfl, z1⟩ := y
    have z1 := z1 vs a1
    rw [c1] at z1; cases z1
    rw [Nat.zero_add]
    exact pair_new r hT (.int _) c2
theorem i_zip {elts : List Expr} {kk : Nat} {tpos : Pos} (F : Fc G C lvl c.fs) (g : Gx G lvl c X) (hgl : glB c "zip" = true) (hst : notStar a = true) (hst2 : notStar b = true) (ha : OkE G Wx X sa a) (hb : OkE G Wx X sb b) :
    PI X (.Tuple elts kk tpos) (.Call (.Name "zip" p) [a, b] [] pos) (tI G Wx fun ℓ h => (sa.opd ℓ h).bind fun x h => (sb.opd ℓ h).bind fun y h => chk (tupO x == tupO y) ((seqO false h x).bind fun xs h => (seqO false h y).bind fun ys h => .ok (zipW xs.1 ys.1, xs.2 ++ ys.2) h)) := by
  refine PI.imp (RZ.pi_zipA (g.gl hgl) (nm_blt F g (by decide)) (pa_cons ha.o (pa_cons hb.o pa_nil (star_ok hst2)) (star_ok hst)) (hs := star_ok hst) (hpl := stars_ok (es := [b]) (by rw [List.all_cons, hst2]; rfl))) fun σ H R' ⟨ι, hh, ℓ, r, lr, p⟩ => ?_
  refine ⟨ι, hh, ℓ, r, lr, (Post.bind p).imp fun x h1 ι1 H1 s1 r1 p1 u hu => ?_⟩
  refine ⟨ι1, h1, ℓ, r1, lr.mono s1, (Post.bind p1).imp fun y h2 ι2 H2 s2 r2 p2 v hv => ?_⟩
  obtain ⟨cz, p2⟩ := p2.chk
  rw [g.K]
  rcases keeps_list (hu.mono s2) r2 p2.bind with ⟨ws, gs, k, e1, q, vs, rfl, hq, hk⟩ | ⟨ws, gs, k, e1, q, vs, rfl, hq, hk⟩ | ⟨z, _⟩
  · rcases keeps_list hv r2 k.bind with ⟨ws2, gs2, k2, e2, q2, vs2, rfl, hq2, hk2⟩ | ⟨ws2, gs2, k2, e2, q2, vs2, rfl, hq2, hk2⟩ | ⟨z, _⟩
    · exact ⟨q, q2, vs, vs2, rfl, .inl ⟨hq, hq2, k2.ok r2 _ (walk_zip (hk _ fun x hx => List.mem_append_left _ hx) (hk2 _ fun x hx => List.mem_append_right _ hx))⟩⟩
    · rw [e1, e2] at cz; cases cz
    · cases z
  · rcases keeps_list hv r2 k.bind with ⟨ws2, gs2, k2, e2, q2, vs2, rfl, hq2, hk2⟩ | ⟨ws2, gs2, k2, e2, q2, vs2, rfl, hq2, hk2⟩ | ⟨z, _⟩
    · rw [e1, e2] at cz; cases cz
    · exact ⟨q, q2, vs, vs2, rfl, .inr ⟨hq, hq2, k2.ok r2 _ (walk_zipT (hk _) (hk2 _))⟩⟩
    · cases z
  · cases z
theorem i_enum {elts : List Expr} {kk : Nat} {tpos : Pos} (F : Fc G C lvl c.fs) (g : Gx G lvl c X) (hgl : glB c "enumerate" = true) (hst : notStar a = true) (ha : OkE G Wx X sa a) :
    PI X (.Tuple elts kk tpos) (.Call (.Name "enumerate" p) [a] [] pos) (tI G Wx fun ℓ h => (sa.opd ℓ h).bind fun x h => chk (!tupO x) ((seqO false h x).bind fun xs h => .ok (enumW 0 xs.1, xs.2) h)) := by
  refine PI.imp (pi_enum (g.gl hgl) (nm_blt F g (by decide)) (pa_cons ha.o pa_nil (star_ok hst)) (hs := star_ok hst)) fun σ H R' ⟨ι, hh, ℓ, r, lr, p⟩ => ?_
  refine ⟨ι, hh, ℓ, r, lr, (Post.bind p).imp fun x h1 ι1 H1 s1 r1 p1 u hu => ?_⟩
  obtain ⟨cz, p1⟩ := p1.chk
  rw [g.K]
  rcases keeps_list hu r1 p1.bind with ⟨ws, gs, k, e1, q, vs, rfl, hq, hk⟩ | ⟨ws, gs, k, e1, q, vs, rfl, hq, hk⟩ | ⟨z, _⟩
  · exact ⟨q, vs, rfl, hq, k.ok r1 _ (walk_enum (hk _ fun x hx => hx))⟩
  · rw [e1] at cz; cases cz
  · cases z

/-! ### comprehensions -/
def relN (outer names : List (Str × NameKind)) : List (Str × NameKind) := names.map fun (n, k) => if (k == .free && outer.lookup n == some .cell) then (n, .cell) else (n, k)
def Ctx.blk (c : Ctx) (scope : Scope) : Ctx := { c with names := relN c.names scope.names, sets := scope.names }
theorem Gx.blk {scope : Scope} (g : Gx G lvl c X) (hk : scope.kind = .function) (s : Shared) (H : Hp) (A0 : Addr) (cl : List (Str × Addr)) (fp : List Addr) : Gx G lvl (c.blk scope) (X.blk s H scope (compEnvC scope cl A0 X.env) fp) := by
  have hn : (relS scope X.env.scope).names = relN c.names scope.names := by
    unfold relS relN
    rw [g.kd, g.nm]
    refine List.map_congr_left fun ⟨n, k⟩ _ => ?_
    have e : (ScopeKind.function == ScopeKind.function) = true := rfl
    simp only [e, Bool.and_true]
  refine ⟨g.prog, g.w, g.K, g.mg, g.base, g.N, g.nd, hn, hk, fun x hx => ?_, g.calm, g.room, g.gd⟩
  have hx : scope.names.lookup x = some .local ∨ scope.names.lookup x = some .cell := hx
  rcases hx with hx | hx
  · have z := lookup_relS_keep (sc := X.env.scope) (k := .local) (fun z => nomatch z) hx
    exact ⟨.inl z, .inr z⟩
  · have z := lookup_relS_keep (sc := X.env.scope) (k := .cell) (fun z => nomatch z) hx
    refine ⟨.inr z, .inl ?_⟩
    show (scope.names.lookup x == some .cell) = true
    rw [hx]; rfl
def lcF (mt : Tg) (mf : Lo → List O → R Bool) (me : Lo → List O → R W) (ℓ0 : Lo) : W → List O → R (Option W) := fun w h => (mt w ℓ0 h).bind fun ℓ2 h => (mf ℓ2 h).bind fun k h =>
      if k = true then (me ℓ2 h).bind fun y h => .ok (some y) h else .ok none h
theorem e_lcomp {elt iter : Expr} {ifs : List Expr} {scope : Scope} {own : List (Str × Nat)} {T : List Nat} {mi : Lo → List O → R (List W × Gd)} {mt : Tg} {mf : Lo → List O → R Bool} {me : Lo → List O → R W} (g : Gx G lvl c X)
    (hi : PI X tg iter (tI G Wx mi)) (ok : BlkOk X.N X.env.scope scope own) (hT : ∀ i ∈ T, i ∈ own.map (·.2))
    (hg : ∀ (s : Shared) (H : Hp) (A0 : Addr) (cl : List (Str × Addr)) (fp : List Addr), PG (X.blk s H scope (compEnvC scope cl A0 X.env) fp) tg (tG G T mt))
    (ht : ∀ (s : Shared) (H : Hp) (A0 : Addr) (cl : List (Str × Addr)) (fp : List Addr), PTs (X.blk s H scope (compEnvC scope cl A0 X.env) fp) ifs (tT G WF mf))
    (he : ∀ (s : Shared) (H : Hp) (A0 : Addr) (cl : List (Str × Addr)) (fp : List Addr), PE (X.blk s H scope (compEnvC scope cl A0 X.env) fp) elt (tV G WF me)) :
    ∀ σ H Q, tL G Wx (fun ℓ h => (mi ℓ h).bind fun r h => lcLoop (lcF mt mf me (wipeL ℓ (own.map (·.2)))) r.2 0 r.1 h) σ H Q → tLc (tI G Wx mi) (tG G T mt) (tT G WF mf) (tV G WF me) (own.map (·.2)) σ H Q := by
  intro σ H Q ⟨ι, hh, ℓ, r, lr, p⟩
  refine ⟨ι, hh, ℓ, r, lr, (Post.bind0 p).imp fun rr h1 ι1 H1 s1 r1 p1 J wk D hD => ?_⟩
  obtain ⟨ws, gs⟩ := rr
  have hD0 : H D = none := s1.back hD
  have nD1 : D ∉ ι1 := r1.fresh hD
  have sD : Step ι H ι1 (upd H1 D (.lst [])) := s1.trans (Step.new hD)
  refine ⟨fun i m H2 => ∃ ι2 h2 acc accW, Step ι H ι2 H2 ∧ Step ι1 H1 ι2 H2 ∧ Rel G h2 ι2 H2 ∧ D ∉ ι2 ∧ H2 D = some (.lst acc) ∧ VRs G H2 ι2 accW acc ∧ i ≤ ws.length ∧ m = ws.length - i ∧
    Post G Wx σ ι H (lcLoop (lcF mt mf me (wipeL ℓ (own.map (·.2)))) gs accW.length (ws.drop i) h2) (fun rest _ ι' H' => ∀ vs, H' D = some (.lst vs) → D ∉ ι' → VRs G H' ι' (accW ++ rest) vs → Q (.ref D) H'), ⟨ws.length, ι1, h1, [], [], sD, Step.new hD, r1.new hD, nD1, upd_same, .nil, Nat.zero_le _, by simp, ?_⟩, ?_⟩
  · exact p1.imp fun rest h' ι' H' s' r' k vs e n hv => k D vs hD0 n e hv
  · rintro i m H2 ⟨ι2, h2, acc, accW, sb, s2, r2, nD, eD, hacc, hi', rfl, p2⟩
    by_cases hlt : i < ws.length
    · have hw : ws[i]? = some ws[i] := by simp [hlt]
      rw [List.drop_eq_getElem_cons hlt] at p2
      unfold lcLoop at p2
      obtain ⟨cg, p2⟩ := p2.chk
      refine .inr ⟨wk.goes i _ h2 ι2 H2 s2 r2 cg hw, fun H3 => ∃ m', m' < ws.length - i ∧ ∃ ι2 h2 acc accW, Step ι H ι2 H3 ∧ Step ι1 H1 ι2 H3 ∧ Rel G h2 ι2 H3 ∧ D ∉ ι2 ∧ H3 D = some (.lst acc) ∧ VRs G H3 ι2 accW acc ∧ i + 1 ≤ ws.length ∧ m' = ws.length - (i + 1) ∧
        Post G Wx σ ι H (lcLoop (lcF mt mf me (wipeL ℓ (own.map (·.2)))) gs accW.length (ws.drop (i + 1)) h2) (fun rest _ ι' H' => ∀ vs, H' D = some (.lst vs) → D ∉ ι' → VRs G H' ι' (accW ++ rest) vs → Q (.ref D) H'), fun H' z => z, fun x H3 y => ?_⟩
      obtain ⟨s3, r3, hx⟩ := wk.yields i _ h2 ι2 H2 x H3 s2 r2 cg hw y
      have p3 : Post G WF (wipe σ (own.map (·.2))) ι2 H3 (lcF mt mf me (wipeL ℓ (own.map (·.2))) ws[i] h2) _ := (Post.noX p2.bind0).later (sb.trans s3)
      refine ⟨ι2, h2, _, _, r3, (lr.mono (sb.trans s3)).wipe _, hx, (Post.bind p3).imp fun ℓ4 h4 ι4 H4 s4 r4 p4 σ4 lr4 sl4 => ?_⟩
      refine ⟨sl4.wipe hT, ι4, h4, ℓ4, r4, lr4, (Post.anyX (Post.bind p4)).imp fun k h5 ι5 H5 s5 r5 p5 => ?_⟩
      have nD3 := s3.notin (by rw [eD]; exact fun z => nomatch z) nD
      have eD3 := s3.keep D _ eD nD
      have nD4 := s4.notin (by rw [eD3]; exact fun z => nomatch z) nD3
      have eD4 := s4.keep D _ eD3 nD3
      have nD5 := s5.notin (by rw [eD4]; exact fun z => nomatch z) nD4
      have eD5 := s5.keep D _ eD4 nD4
      have sx5 : Step ι2 H2 ι5 H5 := (s3.trans s4).trans s5
      cases k with
      | true =>
        rw [if_pos rfl] at p5
        refine iteT ⟨ι5, h5, ℓ4, r5, lr4.mono s5, (Post.anyX (Post.bind p5)).imp fun yw h6 ι6 H6 s6 r6 p6 yv hy => ?_⟩
        have nD6 := s6.notin (by rw [eD5]; exact fun z => nomatch z) nD5
        have eD6 := s6.keep D _ eD5 nD5
        have p7 := p6.ok r6
        obtain ⟨ck, p7⟩ := p7.chk
        have hlen := hacc.length
        refine ⟨acc, eD6, by rw [← hlen]; exact of_decide_eq_true ck, ws.length - (i + 1), by omega, ?_⟩
        have sx6 : Step ι2 H2 ι6 H6 := sx5.trans s6
        obtain ⟨sa, ma⟩ := (sb.trans sx6).apart (o := .lst (acc ++ [yv])) hD0 eD6 (fun z => z)
        obtain ⟨sa1, _⟩ := (s2.trans sx6).apart (o := .lst (acc ++ [yv])) hD eD6 (fun z => z)
        refine ⟨ι6, h6, acc ++ [yv], accW ++ [yw], sa, sa1, r6.mon ma fun a ha => upd_ne fun z => nD6 (by rw [← z]; exact ha), nD6, upd_same, (((hacc.mono sx6).append (.cons hy .nil)).mon ma), by omega, rfl, ?_⟩
        rw [List.length_append, List.length_singleton]
        refine p7.bind0.imp fun rest h' ι' H' s' r' k vs e n hv => ?_
        exact k ι' H' s' r' vs e n (by rw [List.append_assoc] at hv; exact hv)
      | false =>
        rw [if_neg Bool.false_ne_true] at p5
        have p7 := p5.ok r5
        exact iteF ⟨ws.length - (i + 1), by omega, ι5, h5, acc, accW, sb.trans sx5, s2.trans sx5, r5, nD5, eD5, hacc.mono sx5, by omega, rfl, p7⟩
    · have e : i = ws.length := by omega
      subst e
      rw [List.drop_length] at p2
      unfold lcLoop at p2
      obtain ⟨cg, p2⟩ := p2.chk
      refine .inl ⟨wk.stops h2 ι2 H2 s2 r2 cg, p2 ι2 H2 sb r2 acc eD nD (by rw [List.append_nil]; exact hacc)⟩
end
end MP
set_option maxRecDepth 100000
set_option maxHeartbeats 4000000
namespace MP
open PySem PySem.Spec PyProof.Rows L2

/-! ### statements -/
inductive Fl where
  | nx | rt (w : W) | bk | ct
inductive RS where
  | ok (f : Fl) (ℓ : Lo) (h : List O)
  | exc (x : Exn) (ℓ : Lo) (h : List O)
  | stuck
def liftE {α : Type} (ℓ : Lo) (r : R α) (f : α → List O → RS) (_t : Tag f := .mk) : RS := match r with
  | .ok a h => f a h
  | .exc x h => .exc x ℓ h
  | .stuck => .stuck
@[simp] theorem liftE_ok {α : Type} (ℓ : Lo) (a : α) (h : List O) (f : α → List O → RS) : liftE ℓ (.ok a h) f = f a h := rfl
@[simp] theorem liftE_exc {α : Type} (ℓ : Lo) (x : Exn) (h : List O) (f : α → List O → RS) : liftE ℓ (.exc x h : R α) f = .exc x ℓ h := rfl
def seqS (r : RS) (f : Lo → List O → RS) : RS := match r with
  | .ok .nx ℓ h => f ℓ h
  | r => r
@[simp] theorem seqS_nx (ℓ : Lo) (h : List O) (f : Lo → List O → RS) : seqS (.ok .nx ℓ h) f = f ℓ h := rfl
@[simp] theorem seqS_rt (w : W) (ℓ : Lo) (h : List O) (f : Lo → List O → RS) : seqS (.ok (.rt w) ℓ h) f = .ok (.rt w) ℓ h := rfl
@[simp] theorem seqS_bk (ℓ : Lo) (h : List O) (f : Lo → List O → RS) : seqS (.ok .bk ℓ h) f = .ok .bk ℓ h := rfl
@[simp] theorem seqS_ct (ℓ : Lo) (h : List O) (f : Lo → List O → RS) : seqS (.ok .ct ℓ h) f = .ok .ct ℓ h := rfl
@[simp] theorem seqS_exc (x : Exn) (ℓ : Lo) (h : List O) (f : Lo → List O → RS) : seqS (.exc x ℓ h) f = .exc x ℓ h := rfl
/-- behind a turn of a loop -/
def turnS (r : RS) (f : Lo → List O → RS) : RS := match r with
  | .ok .nx ℓ h => f ℓ h
  | .ok .ct ℓ h => f ℓ h
  | .ok .bk ℓ h => .ok .nx ℓ h
  | r => r
@[simp] theorem turnS_nx (ℓ : Lo) (h : List O) (f : Lo → List O → RS) : turnS (.ok .nx ℓ h) f = f ℓ h := rfl
@[simp] theorem turnS_ct (ℓ : Lo) (h : List O) (f : Lo → List O → RS) : turnS (.ok .ct ℓ h) f = f ℓ h := rfl
@[simp] theorem turnS_bk (ℓ : Lo) (h : List O) (f : Lo → List O → RS) : turnS (.ok .bk ℓ h) f = .ok .nx ℓ h := rfl
@[simp] theorem turnS_rt (w : W) (ℓ : Lo) (h : List O) (f : Lo → List O → RS) : turnS (.ok (.rt w) ℓ h) f = .ok (.rt w) ℓ h := rfl
@[simp] theorem turnS_exc (x : Exn) (ℓ : Lo) (h : List O) (f : Lo → List O → RS) : turnS (.exc x ℓ h) f = .exc x ℓ h := rfl
def chkS (b : Bool) (r : RS) : RS := if b = true then r else .stuck
@[simp] theorem chkS_true (r : RS) : chkS true r = r := rfl
def forL (f : W → Lo → List O → RS) (gs : Gd) : List W → Lo → List O → RS
  | [], ℓ, h => chkS (gsOk h gs) (.ok .nx ℓ h)
  | w :: ws, ℓ, h => chkS (gsOk h gs) (turnS (f w ℓ h) (forL f gs ws))
def whileL (c : Lo → List O → R Bool) (f : Lo → List O → RS) : Nat → Lo → List O → RS
  | 0, _, _ => .stuck
  | n + 1, ℓ, h => liftE ℓ (c ℓ h) fun b h => if b = true then turnS (f ℓ h) (whileL c f n) else .ok .nx ℓ h
/-- an exception met by a clause -/
structure Cc where
  cn : Cn
  /-- is the first class one of the second -/
  isA : Str → Str → Option Bool
  /-- the exceptions that are made, each with its field -/
  exs : List (Str × Str)
/-- what a clause hands back -/
def hxW (C : Cc) (x : Exn) : List Hx → Option (List W)
  | [] => some []
  | .lit s :: r => (hxW C x r).map (.str s :: ·)
  | .fld f :: r => if (x.cls, f) ∈ C.exs then (x.fs.lookup f).bind fun w => (hxW C x r).map (w :: ·) else none
/-- the clauses, one after the other -/
def catchS (C : Cc) (x : Exn) : List Hd → Lo → List O → RS
  | [], ℓ, h => .exc x ℓ h
  | d :: ds, ℓ, h => match C.isA x.cls d.cls with
    | some true => match hxW C x d.items with
      | some ws => chkS (decide (ws.length ≤ sizeLine)) (.ok (.rt (.slst ws)) ℓ h)
      | none => .stuck
    | some false => catchS C x ds ℓ h
    | none => .stuck
mutual
def evS (C : Cc) : Ms → Lo → List O → RS
  | .asg t e => fun ℓ h => liftE ℓ ((ev C.cn e).v ℓ h) fun w h => liftE ℓ (noX (evt C.cn t w ℓ h)) fun ℓ h => .ok .nx ℓ h
  | .par i j a b => fun ℓ h => liftE ℓ ((ev C.cn a).v ℓ h) fun x h => liftE ℓ ((ev C.cn b).v ℓ h) fun y h => .ok .nx ((ℓ.set i (some x)).set j (some y)) h
  | .expr e => fun ℓ h => liftE ℓ ((ev C.cn e).v ℓ h) fun _ h => .ok .nx ℓ h
  | .ret e => fun ℓ h => liftE ℓ ((ev C.cn e).v ℓ h) fun w h => .ok (.rt w) ℓ h
  | .retN => fun ℓ h => .ok (.rt .non) ℓ h
  | .pass => fun ℓ h => .ok .nx ℓ h
  | .brk => fun ℓ h => .ok .bk ℓ h
  | .cont => fun ℓ h => .ok .ct ℓ h
  | .ife c a b => fun ℓ h => liftE ℓ ((ev C.cn c).t ℓ h) fun k h => if k = true then evSs C a ℓ h else evSs C b ℓ h
  | .for t s b => fun ℓ h => liftE ℓ (evi C.cn s ℓ h) fun r h => forL (fun w ℓ h => liftE ℓ (noX (evt C.cn t w ℓ h)) fun ℓ h => evSs C b ℓ h) r.2 r.1 ℓ h
  | .while c b => fun ℓ h => whileL (ev C.cn c).t (evSs C b) C.cn.fuel ℓ h
  | .raise c f e => fun ℓ h => liftE ℓ ((ev C.cn e).v ℓ h) fun w h => .exc ⟨c, [(f, w)]⟩ ℓ h
  | .try b hs => fun ℓ h => match evSs C b ℓ h with
    | .ok f ℓ h => .ok f ℓ h
    | .exc x ℓ h => catchS C x hs ℓ h
    | .stuck => .stuck
def evSs (C : Cc) : Mss → Lo → List O → RS
  | .nil => fun ℓ h => .ok .nx ℓ h
  | .cons s .nil => evS C s
  | .cons s (.cons s2 ss) => fun ℓ h => seqS (evS C s ℓ h) (evSs C (.cons s2 ss))
end

/-! ### ends -/
def PostS (G : Pg) (Wx : WX) (ι : List Addr) (H : Hp) (r : RS) (k : Fl → Lo → List O → List Addr → Hp → L2.St → Prop) : Prop := match r with
  | .ok f ℓ h' => ∀ ι' H' σ', Step ι H ι' H' → Rel G h' ι' H' → LR G H' ι' ℓ σ' → k f ℓ h' ι' H' σ'
  | .exc x ℓ h' => ∀ ι' H' σ' cls d, Step ι H ι' H' → Rel G h' ι' H' → LR G H' ι' ℓ σ' → XR G H' ι' x cls d → Wx cls d σ' H'
  | .stuck => False
/-- the ends as told -/
def DK (G : Pg) (D : Ends) : Fl → Lo → List O → List Addr → Hp → L2.St → Prop := fun f _ _ ι H σ => match f with
  | .nx => D.nx σ H
  | .rt w => ∀ v, VR G H ι w v → D.rt v H
  | .bk => D.bk σ H
  | .ct => D.ct σ H
section
variable {G : Pg} {Wx : WX} {ι ι1 : List Addr} {H H1 : Hp} {σ : L2.St} {ℓ : Lo} {h : List O} {k k' : Fl → Lo → List O → List Addr → Hp → L2.St → Prop}
theorem PostS.imp {r : RS} (p : PostS G Wx ι H r k) (f : ∀ f ℓ h' ι' H' σ', Step ι H ι' H' → Rel G h' ι' H' → LR G H' ι' ℓ σ' → k f ℓ h' ι' H' σ' → k' f ℓ h' ι' H' σ') : PostS G Wx ι H r k' := by
  cases r with
  | ok a ℓ h' => exact fun ι' H' σ' s q l => f a ℓ h' ι' H' σ' s q l (p ι' H' σ' s q l)
  | exc x ℓ h' => exact p
  | stuck => exact p
theorem PostS.later {r : RS} (p : PostS G Wx ι H r k) (s : Step ι H ι1 H1) : PostS G Wx ι1 H1 r k := by
  cases r with
  | ok a ℓ h' => exact fun ι' H' σ' t q l => p ι' H' σ' (s.trans t) q l
  | exc x ℓ h' => exact fun ι' H' σ' cls d t q l => p ι' H' σ' cls d (s.trans t) q l
  | stuck => exact p
theorem PostS.lift {α : Type} {r : R α} {f : α → List O → RS} (p : PostS G Wx ι H (liftE ℓ r f) k) (lr : LR G H ι ℓ σ) : Post G Wx σ ι H r fun a h1 ι1 H1 => PostS G Wx ι1 H1 (f a h1) k := by
  cases r with
  | ok a h' =>
    intro ι' H' s q
    have p' : PostS G Wx ι H (f a h') k := p
    exact p'.later s
  | exc x h' => exact fun ι' H' cls d s q x => p ι' H' σ cls d s q (lr.mono s) x
  | stuck => exact p
theorem PostS.ok {f : Fl} (p : PostS G Wx ι H (.ok f ℓ h) k) (r : Rel G h ι H) (l : LR G H ι ℓ σ) : k f ℓ h ι H σ := p ι H σ .refl r l
theorem PostS.chk {b : Bool} {r : RS} (p : PostS G Wx ι H (chkS b r) k) : b = true ∧ PostS G Wx ι H r k := by
  cases b with
  | true => exact ⟨rfl, p⟩
  | false => exact False.elim p
end
/-- a statement -/
def tSt (G : Pg) (Wx : WX) (m : Lo → List O → RS) : TS := fun D σ H => ∃ ι h ℓ, Rel G h ι H ∧ LR G H ι ℓ σ ∧ PostS G Wx ι H (m ℓ h) (DK G D)
section
variable {G : Pg} {lvl : Nat} {c : Ctx} {X : Cx} {Wx : WX} {C : Cc} {a b d e tg : Expr} {es : List Expr} {pos p p2 apos : Pos} {sa sb sc : Sm} {st : Stmt} {sts stb : List Stmt}
structure Sx (G : Pg) (lvl : Nat) (c : Ctx) (X : Cx) (Wx : WX) : Prop where
  g : Gx G lvl c X
  tk : Takes X Wx
  ps : PassesOwn (model X.prog X.w) X.A X.env X.xe
  stk : X.stack = X.env :: X.outer
  fr : X.env.frame = some X.env.locals
  sn : c.sets = c.names

theorem s_nil : PSs X [] (tSt G Wx fun ℓ h => .ok .nx ℓ h) := PSs.imp pss_nil fun D σ H ⟨ι, hh, ℓ, r, lr, p⟩ => p.ok r lr
theorem s_one {m : Lo → List O → RS} (h : PS X st (tSt G Wx m)) : PSs X [st] (tSt G Wx m) := pss_one h
theorem s_cons {m ms : Lo → List O → RS} (h : PS X st (tSt G Wx m)) (hr : PSs X sts (tSt G Wx ms)) : PSs X (st :: sts) (tSt G Wx fun ℓ h => seqS (m ℓ h) ms) := by
  refine PSs.imp (pss_cons h hr) fun D σ H ⟨ι, hh, ℓ, r, lr, p⟩ => ?_
  refine ⟨ι, hh, ℓ, r, lr, ?_⟩
  have p : PostS G Wx ι H (seqS (m ℓ hh) ms) (DK G D) := p
  revert p
  cases m ℓ hh with
  | stuck => exact fun p => p
  | exc x ℓ' h' => exact fun p => p
  | ok f ℓ' h' =>
    cases f with
    | nx =>
      intro p ι' H' σ' s q l
      have p' : PostS G Wx ι H (ms ℓ' h') (DK G D) := p
      exact ⟨ι', h', ℓ', q, l, p'.later s⟩
    | rt w => exact fun p => p
    | bk => exact fun p => p
    | ct => exact fun p => p
/-- the value is no comprehension -/
def notComp : Expr → Bool | .ListComp _ _ _ _ => false | .SetComp _ _ _ _ => false | .DictComp _ _ _ _ _ => false | _ => true
def notName : Expr → Bool | .Name _ _ => false | _ => true
theorem sw_ok {t : Option Expr} {l : Nat} {env : Env} (h : notComp e = true) : swapsWith e t l env = pure false := by
  cases e <;> first | rfl | exact absurd h Bool.false_ne_true
theorem sw_okT {l : Nat} {env : Env} (h : notName tg = true) : swapsWith e (some tg) l env = pure false := by
  cases e <;> cases tg <;> first | rfl | exact absurd h Bool.false_ne_true
def notPar : Expr → Expr → Bool | .Tuple _ _ _, .Tuple _ _ _ => false | .List _ _, .Tuple _ _ _ => false | _, _ => true
theorem st_ok {env : Env} (h : notPar tg e = true) : swappedStores [tg] e env = pure none := by
  cases tg <;> cases e <;> first | rfl | exact absurd h Bool.false_ne_true
theorem s_asg' {T : List Nat} {mv : Lo → List O → R W} {mt : Tg} (he : PE X e (tV G Wx mv)) (hg : PG X tg (tG G T mt)) (hs : (notComp e || notName tg) = true) (hw : swappedStores [tg] e X.env = pure none) (hn : notStar tg = true) :
    PS X (.Assign [tg] e pos) (tSt G Wx fun ℓ h => liftE ℓ (mv ℓ h) fun w h => liftE ℓ (noX (mt w ℓ h)) fun ℓ h => .ok .nx ℓ h) := by
  refine PS.imp (ps_asg he hg (hs := ?_) (hw := hw) (h1 := by rw [assign_ok hn]; rfl)) fun D σ H ⟨ι, hh, ℓ, r, lr, p⟩ => ?_
  · show swapsWith e (some tg) pos.line X.env = pure false
    rw [Bool.or_eq_true] at hs
    rcases hs with hs | hs
    · exact sw_ok hs
    · exact sw_okT hs
  · refine ⟨ι, hh, ℓ, r, lr, (PostS.lift p lr).imp fun w h1 ι1 H1 s1 r1 p1 v hv => ?_⟩
    refine ⟨ι1, h1, ℓ, w, r1, lr.mono s1, hv, (Post.noX (p1.lift (lr.mono s1))).imp fun ℓ2 h2 ι2 H2 s2 r2 p2 σ2 lr2 sl2 => ?_⟩
    exact p2.ok r2 lr2
theorem s_asg {T : List Nat} {mv : Lo → List O → R W} {mt : Tg} (he : PE X e (tV G Wx mv)) (hg : PG X tg (tG G T mt)) (hs : (notComp e || notName tg) = true) (hw : notPar tg e = true) (hn : notStar tg = true) :
    PS X (.Assign [tg] e pos) (tSt G Wx fun ℓ h => liftE ℓ (mv ℓ h) fun w h => liftE ℓ (noX (mt w ℓ h)) fun ℓ h => .ok .nx ℓ h) := s_asg' he hg hs (st_ok hw) hn
theorem s_expr {mv : Lo → List O → R W} (he : PE X e (tV G Wx mv)) (hs : notComp e = true) : PS X (.Expr e pos) (tSt G Wx fun ℓ h => liftE ℓ (mv ℓ h) fun _ h => .ok .nx ℓ h) := by
  refine PS.imp (ps_expr he (hs := sw_ok hs)) fun D σ H ⟨ι, hh, ℓ, r, lr, p⟩ => ?_
  exact ⟨ι, hh, ℓ, r, lr, (PostS.lift p lr).imp fun w h1 ι1 H1 s1 r1 p1 v hv => p1.ok r1 (lr.mono s1)⟩
theorem s_ret {mv : Lo → List O → R W} (he : PE X e (tV G Wx mv)) : PS X (.Return (some e) pos) (tSt G Wx fun ℓ h => liftE ℓ (mv ℓ h) fun w h => .ok (.rt w) ℓ h) := by
  refine PS.imp (ps_ret he) fun D σ H ⟨ι, hh, ℓ, r, lr, p⟩ => ?_
  exact ⟨ι, hh, ℓ, r, lr, (PostS.lift p lr).imp fun w h1 ι1 H1 s1 r1 p1 v hv => p1.ok r1 (lr.mono s1) v hv⟩
theorem s_retN : PS X (.Return none pos) (tSt G Wx fun ℓ h => .ok (.rt .non) ℓ h) := PS.imp ps_retN fun D σ H ⟨ι, hh, ℓ, r, lr, p⟩ => p.ok r lr .non .non
theorem s_pass : PS X (.Pass pos) (tSt G Wx fun ℓ h => .ok .nx ℓ h) := PS.imp ps_pass fun D σ H ⟨ι, hh, ℓ, r, lr, p⟩ => p.ok r lr
theorem s_brk : PS X (.Break pos) (tSt G Wx fun ℓ h => .ok .bk ℓ h) := PS.imp ps_break fun D σ H ⟨ι, hh, ℓ, r, lr, p⟩ => p.ok r lr
theorem s_cont : PS X (.Continue pos) (tSt G Wx fun ℓ h => .ok .ct ℓ h) := PS.imp ps_continue fun D σ H ⟨ι, hh, ℓ, r, lr, p⟩ => p.ok r lr
theorem s_if {mc : Lo → List O → R Bool} {ma mb : Lo → List O → RS} (hc : PT X e (tT G Wx mc)) (ha : PSs X sts (tSt G Wx ma)) (hb : PSs X stb (tSt G Wx mb)) :
    PS X (.If e sts stb pos) (tSt G Wx fun ℓ h => liftE ℓ (mc ℓ h) fun k h => if k = true then ma ℓ h else mb ℓ h) := by
  refine PS.imp (ps_if hc ha hb) fun D σ H ⟨ι, hh, ℓ, r, lr, p⟩ => ?_
  refine ⟨ι, hh, ℓ, r, lr, (PostS.lift p lr).imp fun k h1 ι1 H1 s1 r1 p1 => ?_⟩
  cases k with
  | true => exact iteT ⟨ι1, h1, ℓ, r1, lr.mono s1, p1⟩
  | false => exact iteF ⟨ι1, h1, ℓ, r1, lr.mono s1, p1⟩
/-- behind a turn -/
theorem turn_ends {r : RS} {f : Lo → List O → RS} {ι : List Addr} {H : Hp} {D : Ends} {N : L2.St → Hp → Prop} (p : PostS G Wx ι H (turnS r f) (DK G D)) (hN : ∀ ℓ1 h1 ι1 H1 σ1, Step ι H ι1 H1 → Rel G h1 ι1 H1 → LR G H1 ι1 ℓ1 σ1 → PostS G Wx ι1 H1 (f ℓ1 h1) (DK G D) → N σ1 H1) :
    PostS G Wx ι H r (DK G { D with nx := N, ct := N, bk := D.nx }) := by
  cases r with
  | stuck => exact p
  | exc x ℓ' h' => exact p
  | ok fl ℓ' h' =>
    cases fl with
    | nx => exact fun ι' H' σ' s q l => hN ℓ' h' ι' H' σ' s q l (PostS.later (show PostS G Wx ι H (f ℓ' h') (DK G D) from p) s)
    | ct => exact fun ι' H' σ' s q l => hN ℓ' h' ι' H' σ' s q l (PostS.later (show PostS G Wx ι H (f ℓ' h') (DK G D) from p) s)
    | rt w => exact p
    | bk => exact p
theorem s_for {T : List Nat} {mi : Lo → List O → R (List W × Gd)} {mt : Tg} {mb : Lo → List O → RS} (S : Sx G lvl c X Wx) (hi : PI X tg e (tI G Wx mi)) (hg : PG X tg (tG G T mt)) (hb : PSs X sts (tSt G Wx mb)) (hs : notSet e = true) :
    PS X (.For tg e sts [] pos) (tSt G Wx fun ℓ h => liftE ℓ (mi ℓ h) fun r h => forL (fun w ℓ h => liftE ℓ (noX (mt w ℓ h)) fun ℓ h => mb ℓ h) r.2 r.1 ℓ h) := by
  refine PS.imp (ps_for S.ps S.g.calm hi hg hb (hs := fold_ok hs)) fun D σ H ⟨ι, hh, ℓ, r, lr, p⟩ => ?_
  refine ⟨ι, hh, ℓ, r, lr, (PostS.lift p lr).imp fun rr h1 ι1 H1 s1 r1 p1 J wk => ?_⟩
  obtain ⟨ws, gs⟩ := rr
  refine ⟨fun i m σ2 H2 => ∃ ι2 h2 ℓ2, Step ι1 H1 ι2 H2 ∧ Rel G h2 ι2 H2 ∧ LR G H2 ι2 ℓ2 σ2 ∧ i ≤ ws.length ∧ m = ws.length - i ∧ PostS G Wx ι2 H2 (forL (fun w ℓ h => liftE ℓ (noX (mt w ℓ h)) fun ℓ h => mb ℓ h) gs (ws.drop i) ℓ2 h2) (DK G D),
    ⟨ws.length, ι1, h1, ℓ, .refl, r1, lr.mono s1, Nat.zero_le _, by simp, p1⟩, ?_⟩
  rintro i m σ2 H2 ⟨ι2, h2, ℓ2, s2, r2, lr2, hi', rfl, p2⟩
  by_cases hlt : i < ws.length
  · have hw : ws[i]? = some ws[i] := by simp [hlt]
    rw [List.drop_eq_getElem_cons hlt] at p2
    unfold forL at p2
    obtain ⟨cg, p2⟩ := p2.chk
    refine .inr ⟨wk.goes i _ h2 ι2 H2 s2 r2 cg hw, fun σ3 H3 => ∃ m', m' < ws.length - i ∧ ∃ ι2 h2 ℓ2, Step ι1 H1 ι2 H3 ∧ Rel G h2 ι2 H3 ∧ LR G H3 ι2 ℓ2 σ3 ∧ i + 1 ≤ ws.length ∧ m' = ws.length - (i + 1) ∧ PostS G Wx ι2 H3 (forL (fun w ℓ h => liftE ℓ (noX (mt w ℓ h)) fun ℓ h => mb ℓ h) gs (ws.drop (i + 1)) ℓ2 h2) (DK G D), fun _ _ z => z, fun x H3 y => ?_⟩
    obtain ⟨s3, r3, hx⟩ := wk.yields i _ h2 ι2 H2 x H3 s2 r2 cg hw y
    have p3 := turn_ends (N := fun σ3 H3 => ∃ m', m' < ws.length - i ∧ ∃ ι2 h2 ℓ2, Step ι1 H1 ι2 H3 ∧ Rel G h2 ι2 H3 ∧ LR G H3 ι2 ℓ2 σ3 ∧ i + 1 ≤ ws.length ∧ m' = ws.length - (i + 1) ∧ PostS G Wx ι2 H3 (forL (fun w ℓ h => liftE ℓ (noX (mt w ℓ h)) fun ℓ h => mb ℓ h) gs (ws.drop (i + 1)) ℓ2 h2) (DK G D)) (p2.later s3)
      fun ℓ4 h4 ι4 H4 σ4 s4 r4 lr4 p4 => ⟨ws.length - (i + 1), by omega, ι4, h4, ℓ4, (s2.trans s3).trans s4, r4, lr4, by omega, rfl, p4⟩
    refine ⟨ι2, h2, ℓ2, ws[i], r3, lr2.mono s3, hx, (Post.noX (p3.lift (lr2.mono s3))).imp fun ℓ4 h4 ι4 H4 s4 r4 p4 σ4 lr4 _ => ?_⟩
    exact ⟨ι4, h4, ℓ4, r4, lr4, p4⟩
  · have e : i = ws.length := by omega
    subst e
    rw [List.drop_length] at p2
    unfold forL at p2
    obtain ⟨cg, p2⟩ := p2.chk
    exact .inl ⟨wk.stops h2 ι2 H2 s2 r2 cg, p2.ok r2 lr2⟩
theorem s_while {mc : Lo → List O → R Bool} {mb : Lo → List O → RS} {fuel : Nat} (S : Sx G lvl c X Wx) (hc : PT X e (tT G Wx mc)) (hb : PSs X sts (tSt G Wx mb)) :
    PS X (.While e sts [] pos) (tSt G Wx fun ℓ h => whileL mc mb fuel ℓ h) := by
  refine PS.imp (ps_while S.ps hc hb) fun D σ H ⟨ι, hh, ℓ, r, lr, p⟩ => ?_
  refine ⟨fun m σ2 H2 => ∃ ι2 h2 ℓ2, Rel G h2 ι2 H2 ∧ LR G H2 ι2 ℓ2 σ2 ∧ PostS G Wx ι2 H2 (whileL mc mb m ℓ2 h2) (DK G D), ⟨fuel, ι, hh, ℓ, r, lr, p⟩, ?_⟩
  rintro m σ2 H2 ⟨ι2, h2, ℓ2, r2, lr2, p2⟩
  cases m with
  | zero => exact False.elim p2
  | succ m =>
    unfold whileL at p2
    refine ⟨ι2, h2, ℓ2, r2, lr2, (p2.lift lr2).imp fun k h3 ι3 H3 s3 r3 p3 => ?_⟩
    cases k with
    | true =>
      refine iteT ⟨fun σ4 H4 => ∃ m', m' < m + 1 ∧ ∃ ι2 h2 ℓ2, Rel G h2 ι2 H4 ∧ LR G H4 ι2 ℓ2 σ4 ∧ PostS G Wx ι2 H4 (whileL mc mb m' ℓ2 h2) (DK G D), fun _ _ z => z, ι3, h3, ℓ2, r3, lr2.mono s3, ?_⟩
      exact turn_ends (show PostS G Wx ι3 H3 (turnS (mb ℓ2 h3) (whileL mc mb m)) (DK G D) from p3) fun ℓ4 h4 ι4 H4 σ4 s4 r4 lr4 p4 => ⟨m, Nat.lt_succ_self _, ι4, h4, ℓ4, r4, lr4, p4⟩
    | false => exact iteF ((show PostS G Wx ι3 H3 (.ok .nx ℓ2 h3) (DK G D) from p3).ok r3 (lr2.mono s3))
theorem s_par {i j : Nat} {x y : Str} {px py pt pt2 : Pos} {kt k2 : Nat} {ma mb : Lo → List O → R W} (g : Gx G lvl c X) (hi : c.N[i]? = some x) (hj : c.N[j]? = some y) (hij : i ≠ j) (hx : c.names.lookup x = some .local) (hy : c.names.lookup y = some .local)
    (ha : PE X a (tV G Wx ma)) (hb : PE X b (tV G Wx mb)) (hst : ([a, b] : List Expr).all notStar = true) (hw : ∀ env : Env, env.scope.kind = .function → env.scope.names = c.names → swappedStores [.Tuple [.Name x px, .Name y py] kt pt] (.Tuple [a, b] k2 pt2) env = pure (some [x, y])) :
    PS X (.Assign [.Tuple [.Name x px, .Name y py] kt pt] (.Tuple [a, b] k2 pt2) pos) (tSt G Wx fun ℓ h => liftE ℓ (ma ℓ h) fun x h => liftE ℓ (mb ℓ h) fun y h => .ok .nx ((ℓ.set i (some x)).set j (some y)) h) := by
  rw [List.all_cons, List.all_cons, Bool.and_eq_true, Bool.and_eq_true] at hst
  refine PS.imp (ps_par g.calm (by rw [g.N]; exact g.nd) (by rw [g.N]; exact hi) (by rw [g.N]; exact hj) hij (by rw [g.nm]; exact hx) (by rw [g.nm]; exact hy) (pa_cons ha (pa_cons hb pa_nil (star_ok hst.2.1)) (star_ok hst.1)) (hw X.env g.kd g.nm) (hs := by rfl)) fun D σ H ⟨ι, hh, ℓ, r, lr, p⟩ => ?_
  refine ⟨ι, hh, ℓ, r, lr, (PostS.lift p lr).imp fun w h1 ι1 H1 s1 r1 p1 v hv => ?_⟩
  refine ⟨ι1, h1, ℓ, r1, lr.mono s1, (p1.lift (lr.mono s1)).imp fun w2 h2 ι2 H2 s2 r2 p2 u hu => ?_⟩
  exact ⟨v, u, rfl, p2.ok r2 ((((lr.mono s1).mono s2).set (hv.mono s2)).set hu)⟩
theorem s_setLc {i : Nat} {y : Str} {py : Pos} {elt iter : Expr} {ifs : List Expr} {scope : Scope} {own : List (Str × Nat)} {T : List Nat} {mi : Lo → List O → R (List W × Gd)} {mt : Tg} {mf : Lo → List O → R Bool} {me : Lo → List O → R W} (g : Gx G lvl c X)
    (hy : c.N[i]? = some y) (hyl : c.names.lookup y = some .local) (hl : (py.line == p.line) = true) (hno : (scope.names.any fun (n, k) => n == y && (k == .local || k == .cell)) = false)
    (hi : PI X tg iter (tI G Wx mi)) (ok : BlkOk X.N X.env.scope scope own) (hT : ∀ i ∈ T, i ∈ own.map (·.2))
    (hg : ∀ (s : Shared) (H : Hp) (A0 : Addr) (cl : List (Str × Addr)) (fp : List Addr), PG (X.blk s H scope (compEnvC scope cl A0 X.env) fp) tg (tG G T mt))
    (ht : ∀ (s : Shared) (H : Hp) (A0 : Addr) (cl : List (Str × Addr)) (fp : List Addr), PTs (X.blk s H scope (compEnvC scope cl A0 X.env) fp) ifs (tT G WF mf))
    (he : ∀ (s : Shared) (H : Hp) (A0 : Addr) (cl : List (Str × Addr)) (fp : List Addr), PE (X.blk s H scope (compEnvC scope cl A0 X.env) fp) elt (tV G WF me)) (hs : notSet iter = true) :
    PS X (.Assign [.Name y py] (.ListComp elt [⟨tg, iter, ifs, 0⟩] scope p) pos) (tSt G Wx fun ℓ h => liftE ℓ (((mi ℓ h).bind fun r h => lcLoop (lcF mt mf me (wipeL ℓ (own.map (·.2)))) r.2 0 r.1 h).bind fun ws h => alloc (.lst ws) h) fun w h => liftE ℓ (noX (.ok (ℓ.set i (some w)) h)) fun ℓ h => .ok .nx ℓ h) := by
  refine PS.imp (ps_setLc (i := i) g.calm (by rw [g.N]; exact g.nd) (by rw [g.N]; exact hy) (by rw [g.nm]; exact hyl) (sw_true g.kd (by rw [g.nm]; exact hyl) hl hno) hi ok hg ht he (hs := fold_ok hs)) fun D σ H ⟨ι, hh, ℓ, r, lr, p⟩ => ?_
  refine e_lcomp g hi ok hT hg ht he σ H _ (tL_of ⟨ι, hh, ℓ, r, lr, (PostS.lift p lr).imp fun w h1 ι1 H1 s1 r1 p1 v hv => ?_⟩)
  exact (show PostS G Wx ι1 H1 (.ok .nx (ℓ.set i (some w)) h1) (DK G D) from p1).ok r1 ((lr.mono s1).set hv)
end
end MP
set_option maxRecDepth 100000
set_option maxHeartbeats 4000000
namespace MP
open PySem PySem.Spec PyProof.Rows L2

/-! ### exceptions of the text's own: made, raised, caught -/
section
variable {prog : Program} {w : World} {A : Around} {E : Value → Shared → Prop}
/-- o.m(e, ..) where o.m is read by getMethod -/
theorem call_att {s : Shared} {o : Expr} {m : Str} {ap cp : Pos} {as : List Expr} {env : Env} {Q : Value → Shared → Prop} (hb : attributeBase o m env (eval o env) = eval o env)
    (hfew : ((backTo cp (starEach as env)).all (fun x => !x.1) && (backToKw cp (keywordEach [] env)).all (fun x => x.1.isSome) && decide (as.length + ([] : List Keyword).length + (if ([] : List Keyword).isEmpty then 0 else 1) < 30)) = true)
    (hl : (ap.endLine == cp.line) = true)
    (h : wpAny (model prog w) A (eval o env) (fun ov s1 => ∀ pl, wpAny (model prog w) A (getMethod ov m pl) (fun fx s2 => wpAny (model prog w) A (callWith cp fx.1 fx.2 (backTo cp (starEach as env)) (backToKw cp (keywordEach [] env))) Q E s2) E s1) E s) :
    wpAny (model prog w) A (eval (.Call (.Attribute o m ap) as [] cp) env) Q E s := by
  rw [arm_eval_Call, hb]
  refine wpAny_bind (wpAny_mono h (fun ov s1 hh => ?_) fun _ _ e => e)
  refine wpAny_bind (wpAny_standAt ?_)
  have e1 : methodCallForm (as.length + ([] : List Keyword).length) (backTo cp (starEach as env)) (backToKw cp (keywordEach [] env)) = true := hfew
  have e2 : methodCallPos true o env ap cp = pure cp := by unfold methodCallPos; simp [hl]
  unfold methodCall
  rw [e1]
  refine wpAny_bind (wpAny_holding (wpAny_mono (hh _) (fun fx s2 hc => ?_) fun _ _ z => z))
  exact wpAny_bind (wpAny_of_eq e2 hc)
end
/-- a base of the text's own over ValueError, whose __init__ is ValueError's -/
structure BsC (K : PySem.W.Frag) (B : Addr) : Prop where
  rd : PySem.W.readsIn K B (.type "type") = true
  ga : PySem.W.specialIn K (.ref B) "__getattribute__" = some (some (.builtin "type.__getattribute__"))
  ini : PySem.W.findCls K (.ref B) (.type "type") "__init__" = some (.val (.builtin "ValueError.__init__"))
section
variable {X : Cx} {e : Expr} {es : List Expr} {ta : TA} {b : Str} {B : Addr} {p1 p2 pos : Pos}
theorem pe_binit (T : BsC X.K B) (hg : Gl X b) (hd : (b == ("__debug__" : Str)) = false) (hm : X.mg b = some (.ref B)) (ha : PA X (e :: es) ta) (hl : (p2.endLine == pos.line) = true)
    (he : starEach (e :: es) X.env = (false, eval e X.env) :: starEach es X.env) (hst : (e :: es).all notStar = true) (hlen : es.length < 20) :
    PE X (.Call (.Attribute (.Name b p1) "__init__" p2) (e :: es) [] pos) (tVeI X.K ta) := by
  refine ⟨fun pins s σ H Q I h => ?_⟩
  have hpl : (backTo pos (starEach es X.env)).any (·.1) = false := stars_ok (by rw [List.all_cons, Bool.and_eq_true] at hst; exact hst.2)
  refine call_att (sup_ok rfl) ?_ hl (ld_glob I hg hm ?_ hd)
  · rw [stars_all hst]
    have : (e :: es).length + 0 + (if ([] : List Keyword).isEmpty then 0 else 1) < 30 := by simp; omega
    show (true && true && decide ((e :: es).length + 0 + (if ([] : List Keyword).isEmpty then 0 else 1) < 30)) = true
    rw [decide_eq_true this]
    rfl
  · intro pl
    refine PySem.W.method_cls I.kIn T.ga (PySem.W.cls_value I.kIn T.rd T.ini (by decide +kernel) ?_)
    refine PyProof.Rows.callWith_method1 (thn (ha.run pos pins _ σ H _ (I.tok _) h) fun us s1 hh => ?_) he hpl
    obtain ⟨vs, H1, I1, r1, a, C, ws, rfl, hw, O, ea, q⟩ := hh
    cases r1 with
    | @cons _ u0 _ ur ra rw' =>
      obtain rfl : u0 = Value.ref a := ra
      refine oinit_ok O I1 ea ?_ fun s' J => ⟨.non, H1, J, rfl, q⟩
      rw [← Paired.length rw', sizeLine_eq]
      omega
end

/-! ### __init__ of an exception: the base's, then the field -/
def spInit (K : PySem.W.Frag) (f : Str) : Sp := fun vs H Q _ => ∃ a C v, vs = [.ref a, v] ∧ OexC K C ∧ PySem.W.findIn K (.ref C) f = some none ∧ H a = some (exo a C none) ∧
  ∀ dx, H dx = none → dx ≠ a → Q .non (upd (upd H dx (exd dx [(f, v)])) a (exo a C (some dx)))
def initB (st : Stmt) (b pv f : Str) : Bool := match defBody st with
  | [.Expr (.Call (.Attribute (.Name x _) m p2) [.Name y _, .Constant (.str _) _ _] [] pos) _, .Assign [.Attribute (.Name z _) g _] (.Name v _) _] =>
    decide (x = b) && decide (m = ("__init__" : Str)) && (p2.endLine == pos.line) && decide (y = ("self" : Str)) && decide (z = ("self" : Str)) && decide (g = f) && decide (v = pv) && C8.scC ["self", pv] ["self", pv] (defScope st) &&
      decide ((defScope st).names.lookup b = some .globalImplicit) && !(pv == ("__debug__" : Str)) && !(pv == ("__classdict__" : Str)) && !(b == ("__debug__" : Str))
  | _ => false
theorem vis_of {N P : List Str} {sc : Scope} (S : FnScope N P sc) {x : Str} (h : x ∈ P) : Vis sc x := by
  rcases S.par x h with h | h
  · exact .inl h
  · exact .inr (.inl h)
theorem init_fn {P : Program} {w : World} {K : PySem.W.Frag} {mg : Str → Option Value} {base : Heap} {st : Stmt} {q b pv f : Str} {fI B : Addr} {fd : FuncData} (F : Fun K "__init__" q st fI fd) (hc : initB st b pv f = true) (hm : mg b = some (.ref B)) (T : BsC K B) :
    FnOk P w K mg base (CX P w) 1 fI fd ["self", pv] (spInit K f) := by
  unfold initB at hc
  split at hc
  · rename_i x p1 m p2 y p3 msg kd p4 pos p5 z p6 g p7 v p8 p9 hbody
    simp only [Bool.and_eq_true, decide_eq_true_eq, Bool.not_eq_true'] at hc
    obtain ⟨⟨⟨⟨⟨⟨⟨⟨⟨⟨⟨rfl, rfl⟩, hl⟩, rfl⟩, rfl⟩, rfl⟩, rfl⟩, hS⟩, hg⟩, d1⟩, d2⟩, d3⟩ := hc
    have S := C8.fnScope_by hS
    obtain ⟨oc, od, kV, doc, pm, an, cdv, ct, osl, rfl, lk, hcd⟩ := F.ex
    refine fn_of lk hcd S (fun vs H Q E h => ?_) fun A outer s H vs Q E room h => ?_
    · obtain ⟨a, C, v, rfl, _⟩ := h
      rfl
    · rw [hbody]
      have n0 : ∀ {X : Cx} {p : Pos}, X.N = (["self", v] : List Str) → X.env.scope = defScope st → PE X (.Name "self" p) (tVar 0) := fun e1 e2 =>
        pe_var (by rw [e1]; rfl) (by rw [e2]; exact vis_of S List.mem_cons_self) (by decide) (by decide)
      have n1 : ∀ {X : Cx} {p : Pos}, X.N = (["self", v] : List Str) → X.env.scope = defScope st → PE X (.Name v p) (tVar 1) := fun e1 e2 =>
        pe_var (by rw [e1]; rfl) (by rw [e2]; exact vis_of S (List.mem_cons_of_mem _ List.mem_cons_self)) d1 d2
      refine ⟨_, pss_cons (ps_expr (pe_binit (B := B) T (show Gl _ x from hg) d3 hm (pa_cons (n0 rfl rfl) (pa_cons pe_str pa_nil (by rfl)) (by rfl)) hl (by rfl) (by rfl) (by simp))) (pss_one (ps_ost (n0 rfl rfl) (n1 rfl rfl))), ?_⟩
      obtain ⟨a, C, v', rfl, O, hno, ea, q⟩ := h
      exact ⟨.ref a, rfl, a, C, _, rfl, by simp, O, ea, v', rfl, .ref a, rfl, a, C, rfl, O, hno, .inl ⟨ea, q⟩⟩
  · exact absurd hc Bool.false_ne_true
/-- what raising and catching lean on -/
structure ExC (G : Pg) (x f : Str) (C fI : Addr) (fd : FuncData) (pv : Str) : Prop where
  cls : G.cls x = some C
  mg : G.mg x = some (.ref C)
  ox : OexC G.K C
  ini : PySem.W.findIn G.K (.ref C) "__init__" = some (some (.ref fI))
  tyI : PySem.W.typeIn G.K (.ref fI) = some (.type "function")
  fn : FnOk G.P G.w G.K G.mg G.base (L2.CX G.P G.w) 1 fI fd ["self", pv] (spInit G.K f)
  bd : Binds G.K fd ["self", pv] []
  no : PySem.W.findIn G.K (.ref C) f = some none
  xf : XfC G.K C
structure Ec (G : Pg) (C : Cc) (lvl : Nat) (exs : List (Str × Str)) (cls : List Str) : Prop where
  lev : 2 ≤ lvl
  same : C.exs = exs
  made : ∀ x f, (x, f) ∈ exs → ∃ Ca fI fd pv, ExC G x f Ca fI fd pv
  isa : ∀ y ∈ cls, ∃ Cy, G.mg y = some (.ref Cy) ∧ ∀ x b Cx, C.isA x y = some b → G.cls x = some Cx → PySem.W.exmOne G.K (.ref Cx) (.ref Cy) = some b
section
variable {G : Pg} {lvl : Nat} {c : Ctx} {X : Cx} {Wx : WX} {C : Cc} {e : Expr} {p pos : Pos} {x f pv : Str} {Ca fI : Addr} {fd : FuncData}
theorem back_eq {H : Hp} {a d Cx : Addr} {f : Str} {v : V} (ha : H a = none) (hd : d ≠ a) :
    upd (del (upd (upd (upd H a (exo a Cx none)) d (exd d [(f, v)])) a (exo a Cx (some d))) a) d (.xd [(f, v)]) = upd H d (.xd [(f, v)]) := by
  funext b
  by_cases h1 : b = d
  · rw [h1, upd_same, upd_same]
  · rw [upd_ne h1, upd_ne h1]
    by_cases h2 : b = a
    · rw [h2, del_same, ha]
    · rw [del_ne h2, upd_ne h2, upd_ne h1, upd_ne h2]
theorem s_raise {p3 : Pos} {mv : Lo → List O → R W} (S : Sx G lvl c X Wx) (E : Ec G C lvl c.exs c.cls) (hx : (x, f) ∈ c.exs) (hg : glB c x = true) (hd : debB x = true) (he : PE X e (tV G Wx mv)) (hs : notStar e = true) :
    PS X (.Raise (some (.Call (.Name x p) [e] [] pos)) none p3) (tSt G Wx fun ℓ h => liftE ℓ (mv ℓ h) fun w h => .exc ⟨x, [(f, w)]⟩ ℓ h) := by
    obtain ⟨Ca, fI, fd, pv, T⟩ := E.made x f hx
    have hl := E.lev
    have g := S.g
    have fn := T.fn
    rw [← g.prog, ← g.w, ← g.K, ← g.mg, ← g.base] at fn
    have z := pmk_oex (p := p) (pos := pos) (by rw [g.K]; exact T.ox) (by rw [g.K]; exact T.ini) (by rw [g.K]; exact T.tyI) fn (g.room.mono hl) (by rw [g.K]; exact T.bd) .nil (passes_call S.tk fun _ _ _ _ h => h.elim) (g.gl hg) (by rw [g.mg]; exact T.mg)
      (pa_cons he pa_nil (star_ok hs)) (deb_of hd) (star_ok hs) (by rfl)
    refine PS.imp (ps_raise g.calm S.tk z) fun D σ H ⟨ι, hh, ℓ, r, lr, p⟩ => ?_
    refine ⟨ι, hh, ℓ, r, lr, (PostS.lift p lr).imp fun w h1 ι1 H1 s1 r1 p1 v hv => ⟨by simp, fun a ha => ⟨a, Ca, v, rfl, by rw [g.K]; exact T.ox, by rw [g.K]; exact T.no, upd_same, fun dx hdx hne => ⟨rfl, dx, [(f, v)], upd_same, ?_, ?_, ?_⟩⟩⟩⟩
    · rw [upd_ne hne, upd_same]
    · rw [upd_ne hne] at hdx; exact hdx
    · rw [upd_ne hne] at hdx
      rw [back_eq ha hne]
      have st : Step ι1 H1 ι1 (upd H1 dx (.xd [(f, v)])) := Step.new hdx
      exact p1 ι1 _ σ _ _ st (r1.new hdx) ((lr.mono s1).mono st) ⟨Ca, T.cls, rfl, .inr ⟨dx, _, rfl, upd_same, .cons (hv.mono st) .nil, r1.fresh hdx⟩⟩
/-! ### except clauses that hand back a list -/
/-- the clause's own list against its items -/
def hxB (c : Ctx) (n : Str) : List Hx → List Expr → Bool
  | [], [] => true
  | .lit s :: r, .Constant (.str t) _ _ :: es => decide (s = t) && hxB c n r es
  | .fld f :: r, .Attribute (.Name m _) g _ :: es => decide (m = n) && decide (f = g) && hxB c n r es
  | _, _ => false
def hxV (vs : List (Str × V)) : List Hx → Option (List V)
  | [] => some []
  | .lit s :: r => (hxV vs r).map (.str s :: ·)
  | .fld f :: r => (vs.lookup f).bind fun v => (hxV vs r).map (v :: ·)
theorem FR.look {ι : List Addr} {H : Hp} {f : Str} : ∀ {ws : List (Str × W)} {vs : List (Str × V)} {w : W}, FR G H ι ws vs → ws.lookup f = some w → ∃ v, vs.lookup f = some v ∧ VR G H ι w v
  | _, _, _, .nil, e => nomatch e
  | (y, w') :: ws, (_, v') :: vs, w, .cons r t, e => by
    rw [List.lookup_cons] at e ⊢
    cases hb : f == y with
    | true =>
      rw [hb] at e
      cases e
      exact ⟨v', rfl, r⟩
    | false =>
      rw [hb] at e
      exact FR.look t e
theorem hx_vals {ι : List Addr} {H : Hp} {x : Exn} {vs : List (Str × V)} (r : FR G H ι x.fs vs) : ∀ {items : List Hx} {ws : List W}, hxW C x items = some ws → (∀ f, .fld f ∈ items → (x.cls, f) ∈ C.exs) ∧ ∃ us, hxV vs items = some us ∧ VRs G H ι ws us
  | [], ws, e => by cases e; exact ⟨fun _ h => (nomatch h), [], rfl, .nil⟩
  | .lit s :: items, ws, e => by
    rw [hxW, Option.map_eq_some_iff] at e
    obtain ⟨ws', e1, rfl⟩ := e
    obtain ⟨h1, us, h2, h3⟩ := hx_vals r e1
    refine ⟨fun f hf => ?_, .str s :: us, by rw [hxV, h2]; rfl, .cons (.str s) h3⟩
    rcases List.mem_cons.mp hf with hf | hf
    · cases hf
    · exact h1 f hf
  | .fld f :: items, ws, e => by
    rw [hxW] at e
    split at e
    · rename_i hin
      rw [Option.bind_eq_some_iff] at e
      obtain ⟨w, e1, e⟩ := e
      rw [Option.map_eq_some_iff] at e
      obtain ⟨ws', e2, rfl⟩ := e
      obtain ⟨h1, us, h2, h3⟩ := hx_vals r e2
      obtain ⟨v, h4, h5⟩ := r.look e1
      refine ⟨fun g hg => ?_, v :: us, by rw [hxV, h4, h2]; rfl, .cons h5 h3⟩
      rcases List.mem_cons.mp hg with hg | hg
      · cases hg; exact hin
      · exact h1 g hg
    · cases e
/-- the items' values in the suite -/
def tHx (K : PySem.W.Frag) (i : Nat) (a : Addr) (cls : Value) (d : Option Addr) (items : List Hx) : TA := fun σ H Q => ∃ (Cx : Addr) (vs : List (Str × V)) (us : List V), (i < σ.length → σ[i]? = some (some (.ref a))) ∧ cls = .ref Cx ∧ (vs = [] ∨ ∃ dd, d = some dd ∧ H dd = some (.xd vs)) ∧
  (∀ f, .fld f ∈ items → XfC K Cx ∧ PySem.W.findIn K (.ref Cx) f = some none) ∧ hxV vs items = some us ∧ Q us H
theorem PA.pre {es : List Expr} {t : TA} {P : Prop} (h : P → PA X es t) : PA X es (fun σ H Q => P ∧ t σ H Q) := ⟨fun pos pins s σ H Q I ⟨hp, q⟩ => (h hp).run pos pins s σ H Q I q⟩
theorem pa_hx {n : Str} {i : Nat} {a : Addr} {oe : Obj} {cls : Value} {d : Option Addr} {pn : List (Addr × Obj)} (hN : X.N[i]? = some n) (hv : Vis X.env.scope n) (d1 : (n == ("__debug__" : Str)) = false) (d2 : (n == ("__classdict__" : Str)) = false) (hz : Zc cls d oe) (hf : ∃ vs, oe.data = .fields vs) :
    ∀ {items : List Hx} {es : List Expr}, hxB c n items es = true → PA (X.suite a ((a, oe) :: pn)) es (tHx X.K i a cls d items)
  | [], [], _ => PA.imp pa_nil fun σ H Q ⟨Cx, vs, us, _, _, _, _, h, q⟩ => by cases h; exact q
  | [], _ :: _, h => absurd h Bool.false_ne_true
  | .lit s :: items, es, h => by
    cases es with
    | nil => exact absurd h Bool.false_ne_true
    | cons e es =>
      cases e <;> first
        | exact absurd h Bool.false_ne_true
        | skip
      rename_i k j p
      cases k <;> first
        | exact absurd h Bool.false_ne_true
        | skip
      rename_i t
      have k : (decide (s = t) && hxB c n items es) = true := h
      clear h
      simp only [Bool.and_eq_true, decide_eq_true_eq] at k
      obtain ⟨rfl, h⟩ := k
      refine PA.imp (pa_cons pe_str (pa_hx hN hv d1 d2 hz hf h) (by rfl)) fun σ H Q ⟨Cx, vs, us, h1, h2, h3, h5, h6, q⟩ => ?_
      rw [hxV, Option.map_eq_some_iff] at h6
      obtain ⟨us', h6, rfl⟩ := h6
      exact ⟨Cx, vs, us', h1, h2, h3, fun f hf => h5 f (List.mem_cons_of_mem _ hf), h6, q⟩
  | .fld f :: items, es, h => by
    cases es with
    | nil => exact absurd h Bool.false_ne_true
    | cons e es =>
      cases e <;> first
        | exact absurd h Bool.false_ne_true
        | skip
      rename_i b g p
      cases b <;> first
        | exact absurd h Bool.false_ne_true
        | skip
      rename_i m p2
      have k : (decide (m = n) && decide (f = g) && hxB c n items es) = true := h
      clear h
      simp only [Bool.and_eq_true, decide_eq_true_eq] at k
      obtain ⟨⟨rfl, rfl⟩, h⟩ := k
      refine ⟨fun pos pins s σ H Q I ⟨Cx, vs, us, h1, h2, h3, h5, h6, q⟩ => ?_⟩
      obtain ⟨t1, t2⟩ := h5 f List.mem_cons_self
      rw [hxV, Option.bind_eq_some_iff] at h6
      obtain ⟨v, hv1, h6⟩ := h6
      rw [Option.map_eq_some_iff] at h6
      obtain ⟨us', h6, rfl⟩ := h6
      have hd : ∃ dd, d = some dd ∧ H dd = some (.xd vs) := by
        rcases h3 with h3 | h3
        · subst h3; cases hv1
        · exact h3
      obtain ⟨dd, h3', h4⟩ := hd
      have hi : i < σ.length := by
        rw [I.len]
        exact (List.getElem?_eq_some_iff.mp hN).1
      refine (pa_cons (pe_xf (X := X) (pos := p) t1 t2 hz hf (pe_var (X := X.suite a ((a, oe) :: pn)) (pos := p2) hN hv d1 d2)) (pa_hx (pn := pn) hN hv d1 d2 hz hf h) (by rfl)).run pos pins s σ H Q I ?_
      exact ⟨.ref a, h1 hi, rfl, h2, dd, vs, v, h3', h4, hv1, Cx, vs, us', h1, h2, h3, fun g hg => h5 g (List.mem_cons_of_mem _ hg), h6, q⟩
theorem hxV_len {vs : List (Str × V)} : ∀ {items : List Hx} {us : List V}, hxV vs items = some us → us.length = items.length
  | [], us, e => by cases e; rfl
  | .lit s :: items, us, e => by
    rw [hxV, Option.map_eq_some_iff] at e
    obtain ⟨us', h6, rfl⟩ := e
    rw [List.length_cons, List.length_cons, hxV_len h6]
  | .fld f :: items, us, e => by
    rw [hxV, Option.bind_eq_some_iff] at e
    obtain ⟨v, _, e⟩ := e
    rw [Option.map_eq_some_iff] at e
    obtain ⟨us', h6, rfl⟩ := e
    rw [List.length_cons, List.length_cons, hxV_len h6]
theorem hxB_len {n : Str} : ∀ {items : List Hx} {es : List Expr}, hxB c n items es = true → es.length = items.length
  | [], [], _ => rfl
  | [], _ :: _, h => absurd h Bool.false_ne_true
  | .lit s :: items, [], h => absurd h Bool.false_ne_true
  | .fld f :: items, [], h => absurd h Bool.false_ne_true
  | .lit s :: items, e :: es, h => by
    cases e <;> first
      | exact absurd h Bool.false_ne_true
      | skip
    rename_i k j p
    cases k <;> first
      | exact absurd h Bool.false_ne_true
      | skip
    rename_i t
    have k : (decide (s = t) && hxB c n items es) = true := h
    rw [Bool.and_eq_true] at k
    rw [List.length_cons, List.length_cons, hxB_len k.2]
  | .fld f :: items, e :: es, h => by
    cases e <;> first
      | exact absurd h Bool.false_ne_true
      | skip
    rename_i b g p
    cases b <;> first
      | exact absurd h Bool.false_ne_true
      | skip
    rename_i m p2
    have k : (decide (m = n) && decide (f = g) && hxB c n items es) = true := h
    rw [Bool.and_eq_true] at k
    rw [List.length_cons, List.length_cons, hxB_len k.2]
/-- what a suite that hands back its items does -/
def tSuite (K : PySem.W.Frag) (i : Nat) (items : List Hx) (a : Addr) (cls : Value) (d : Option Addr) : TS := fun D σ H => tHx K i a cls d items σ H fun us H1 => ∀ p od, H1 p = none → D.rt (.ref p) (upd H1 p (.frz od (.lst us)))
theorem pss_suite {es : List Expr} {n : Str} {i : Nat} {items : List Hx} {p1 p2 : Pos} (hN : X.N[i]? = some n) (hv : Vis X.env.scope n) (d1 : (n == ("__debug__" : Str)) = false) (d2 : (n == ("__classdict__" : Str)) = false) (hb : hxB c n items es = true) (hl : es.length ≤ sizeLine)
    (a : Addr) (oe : Obj) (cls : Value) (d : Option Addr) (pn : List (Addr × Obj)) (hz : Zc cls d oe) (hf : ∃ vs, oe.data = .fields vs) :
    PSs (X.suite a ((a, oe) :: pn)) [.Return (some (.List es p1)) p2] (tSuite X.K i items a cls d) := by
  refine PSs.imp (pss_one (ps_ret (PE.lock (pe_lst (pa_hx (pn := pn) hN hv d1 d2 hz hf hb))))) fun D σ H h => ?_
  obtain ⟨Cx, vs, us, h1, h2, h3, h4, h5, q⟩ := h
  refine ⟨Cx, vs, us, h1, h2, h3, h4, h5, ?_⟩
  refine ⟨by rw [hxV_len h5, ← hxB_len hb]; exact hl, fun p hp => .inr ⟨p, _, upd_same, trivial, fun od => ?_⟩⟩
  rw [upd_upd]
  exact q p od hp
theorem s_try1 {body : List Stmt} {es : List Expr} {mb : Mss} {y n : Str} {i : Nat} {items : List Hx} {np p1 p2 p3 : Pos} (S : Sx G lvl c X Wx) (E : Ec G C lvl c.exs c.cls) (hN : c.N[i]? = some n) (hn : c.names.lookup n = some .local) (hd : debB n = true) (hy : y ∈ c.cls) (hg : glB c y = true) (hdy : debB y = true)
    (hbx : hxB c n items es = true) (hl : es.length ≤ sizeLine) (hb : ∀ (W : WX) (pn : List (Addr × Obj)) (xe : Value → Shared → Prop), Takes (X.tr pn xe) W → PassesOwn (model X.prog X.w) X.A X.env xe → PSs (X.tr pn xe) body (tSt G W (evSs C mb))) :
    PS X (.Try body [.ExceptHandler (some (.Name y np)) (some n) [.Return (some (.List es p1)) p2] p3] [] [] pos) (tSt G Wx (evS C (.try mb [⟨y, i, items⟩]))) := by
  have g := S.g
  have hNX : X.N[i]? = some n := by rw [g.N]; exact hN
  have hk : X.env.scope.names.lookup n = some .local := by rw [g.nm]; exact hn
  obtain ⟨Cy, hm, hx⟩ := E.isa y hy
  refine PS.imp (ps_try_as S.stk S.fr (by rw [g.N]; exact g.nd) hNX hk ⟨g.gl hg, deb_of hdy, .inl (by rw [g.mg]; exact hm)⟩ S.tk hb
    fun a oe cls d pn hz hf => pss_suite (c := c) hNX (.inl hk) (deb_of hd) (cd_of hd) hbx hl a oe cls d pn hz hf) fun D σ H ⟨ι, hh, ℓ, r, lr, p⟩ => ?_
  refine ⟨ι, hh, ℓ, r, lr, ?_⟩
  have p : PostS G Wx ι H (match evSs C mb ℓ hh with
    | .ok f ℓ h => .ok f ℓ h
    | .exc x ℓ h => catchS C x [⟨y, i, items⟩] ℓ h
    | .stuck => .stuck) (DK G D) := p
  revert p
  cases evSs C mb ℓ hh with
  | stuck => exact fun p => p
  | ok f ℓ' h' => exact fun p => p
  | exc x ℓ' h' =>
    intro p ι' H' σ' cls d s q l xr
    obtain ⟨Cx, c1, rfl, c3⟩ := xr
    have p : PostS G Wx ι H (catchS C x [⟨y, i, items⟩] ℓ' h') (DK G D) := p
    unfold catchS at p
    split at p
    · rename_i ei
      split at p
      · rename_i ws ew
        obtain ⟨_, p⟩ := p.chk
        refine ⟨true, by rw [g.K]; exact hx _ _ _ ei c1, fun _ a na => ?_, fun z => absurd z (by decide)⟩
        have q2 := p ι' H' σ' s q l
        have fr : ∃ vs, (vs = [] ∨ ∃ dd, d = some dd ∧ H' dd = some (.xd vs)) ∧ FR G H' ι' x.fs vs := by
          rcases c3 with ⟨e1, e2⟩ | ⟨dd, vs, e1, e2, e3, e4⟩
          · exact ⟨[], .inl rfl, by rw [e1]; exact .nil⟩
          · exact ⟨vs, .inr ⟨dd, e1, e2⟩, e3⟩
        obtain ⟨vs, k1, k2⟩ := fr
        obtain ⟨k3, us, k4, k5⟩ := hx_vals k2 ew
        refine ⟨Cx, vs, us, fun hi => List.getElem?_set_self (by simpa using hi), rfl, k1, fun f hf => ?_, k4, fun p' od hp => ?_⟩
        · have hin := k3 f hf
          rw [E.same] at hin
          obtain ⟨Ca, fI, fd, pv, T⟩ := E.made _ _ hin
          have e := T.cls
          rw [c1] at e
          cases e
          rw [g.K]
          exact ⟨T.xf, T.no⟩
        · have st : Step ι' H' ι' (upd H' p' (.frz od (.lst us))) := Step.new hp
          exact p ι' _ σ' (s.trans st) (q.new hp) (l.mono st) _ (.slst (.inl ⟨od, upd_same⟩) (k5.mono st))
      · exact False.elim p
    · rename_i ei
      refine ⟨false, by rw [g.K]; exact hx _ _ _ ei c1, fun z => absurd z (by decide), fun _ => ?_⟩
      exact p ι' H' σ' _ d s q l ⟨Cx, c1, rfl, c3⟩
    · exact False.elim p
end
end MP
set_option maxRecDepth 100000
set_option maxHeartbeats 4000000
namespace MP
open PySem PySem.Spec PyProof.Rows L2

/-! ### the text against the tree -/
def tyChk (c : Ctx) : List String → List Expr → Bool
  | [], [] => true
  | T :: Ts, .Name x _ :: es => decide (x = Str.ofString T) && tyNames.contains T && glB c x && tyChk c Ts es
  | _, _ => false
def isL : Me → Bool
  | .lst _ => true
  | .lrep _ _ => true
  | .lcat _ _ => true
  | .lcut _ _ _ => true
  | .lcomp _ _ _ _ _ => true
  | .blt f (.cons _ .nil) => decide (f = "list")
  | _ => false
theorem isL_e {C : Cn} : ∀ {m : Me}, isL m = true → (ev C m).e = true
  | .lst _, _ => rfl
  | .lrep _ _, _ => rfl
  | .lcat _ _, _ => rfl
  | .lcut _ _ _, _ => rfl
  | .lcomp _ _ _ _ _, _ => rfl
  | .blt f (.cons _ .nil), h => by
    have e : f = "list" := of_decide_eq_true h
    subst e
    rfl
def slT : Mt → List Nat
  | .name i => [i]
  | .tup ts => slTs ts
  | .sub _ _ => []
where slTs : Mts → List Nat
  | .nil => []
  | .cons t ts => slT t ++ slTs ts
def ownN (N : List Str) (own : List Nat) : List (Str × Nat) := own.filterMap fun i => (N[i]?).map fun x => (x, i)
def Mts.len : Mts → Nat
  | .nil => 0
  | .cons _ ts => ts.len + 1
mutual
def trE (c : Ctx) : Me → Expr → Bool
  | .var i => fun e => match e with
    | .Name x _ => decide (c.N[i]? = some x) && visB c x && debB x
    | _ => false
  | .glob y => fun e => match e with
    | .Name x _ => decide (x = y) && glB c x && debB x
    | _ => false
  | .non => fun e => match e with
    | .Constant .none _ _ => true
    | _ => false
  | .bl b => fun e => match e with
    | .Constant (.bool b') _ _ => decide (b = b')
    | _ => false
  | .int i => fun e => match e with
    | .Constant (.int j) _ _ => decide (i = j)
    | _ => false
  | .str x => fun e => match e with
    | .Constant (.str y) _ _ => decide (x = y)
    | _ => false
  | .tup es => fun e => match e with
    | .Tuple xs _ _ => trEs c es xs
    | _ => false
  | .lst es => fun e => match e with
    | .List xs _ => trEs c es xs
    | _ => false
  | .dct kvs => fun e => match e with
    | .Dict ks vs _ => trD c kvs ks vs && decide (ks.length ≤ 15)
    | _ => false
  | .lrep a n => fun e => match e with
    | .BinOp x .Mult y _ => isL a && trE c a x && trE c n y
    | _ => false
  | .lcat a b => fun e => match e with
    | .BinOp x .Add y _ => trE c a x && trE c b y
    | _ => false
  | .lcut a lo hi => fun e => match e with
    | .Subscript x (.Slice l u none _) _ => trE c a x && trO c lo l && trO c hi u
    | _ => false
  | .bin op a b => fun e => match e with
    | .BinOp x o y _ => decide (o = op) && trE c a x && trE c b y
    | _ => false
  | .neg a => fun e => match e with
    | .UnaryOp .USub x _ => trE c a x
    | _ => false
  | .not a => fun e => match e with
    | .UnaryOp .Not x _ => trE c a x
    | _ => false
  | .boolop op es => fun e => match e with
    | .BoolOp o xs _ => decide (o = op) && trB c es xs
    | _ => false
  | .cmp op a b => fun e => match e with
    | .Compare x [o] [y] _ => decide (o = op) && notSet y && trE c a x && trE c b y
    | _ => false
  | .chain op1 op2 a b d => fun e => match e with
    | .Compare x [o1, o2] [y, z] _ => decide (o1 = op1) && decide (o2 = op2) && notSet z && trE c a x && trE c b y && trE c d z
    | _ => false
  | .ife k a b => fun e => match e with
    | .IfExp x y z _ => trE c k x && trE c a y && trE c b z
    | _ => false
  | .call f es => fun e => match e with
    | .Call (.Name x _) xs [] _ => decide (x = f) && decide (f ∈ c.fs) && glB c f && debB f && trEs c es xs
    | _ => false
  | .blt f es => fun e => match e with
    | .Call (.Name x _) xs [] _ => decide (x = f) && glB c f && trK c f es xs
    | _ => false
  | .isi a ts => fun e => match e with
    | .Call (.Name x _) [y, z] [] _ => decide (x = ("isinstance" : Str)) && glB c x && notStar y && trE c a y && (match z with
      | .Name w p => tyChk c ts [.Name w p]
      | .Tuple zs _ _ => tyChk c ts zs && decide (ts.length ≤ 20)
      | _ => false)
    | _ => false
  | .sub a i => fun e => match e with
    | .Subscript x y _ => notSlice y && trE c a x && trE c i y
    | _ => false
  | .slice a lo hi => fun e => match e with
    | .Subscript x (.Slice l u none _) _ => trE c a x && trO c lo l && trO c hi u
    | _ => false
  | .frz a => fun e => isL a && plT e && trE c a e
  | .frd kvs => fun e => match e with
    | .Dict ks vs _ => trD c kvs ks vs && decide (ks.length ≤ 15)
    | _ => false
  | .attr a f => fun e => false
  | .bm m a es => fun e => match e with
    | .Call (.Attribute x n ap) xs [] p => decide (n = m) && notSup x && (ap.endLine == p.line) && trE c a x && trM c m es xs
    | _ => false
  | .lcomp elt tg src ifs own => fun e => match e with
    | .ListComp x [⟨t, it, ifx, n⟩] scope _ => decide (n = 0) && notSet it && blkC c.N { kind := .function, names := c.names, isGenerator := false, isCoroutine := false } scope (ownN c.N own) && decide ((ownN c.N own).map (·.2) = own) && (slT tg).all (fun i => own.contains i) &&
      trI c src t it && trT (c.blk scope) tg t && trF (c.blk scope) ifs ifx && trE (c.blk scope) elt x
    | _ => false
def trEs (c : Ctx) : Mes → List Expr → Bool
  | .nil => fun xs => match xs with
    | [] => true
    | _ => false
  | .cons e es => fun xs => match xs with
    | x :: xs => notStar x && trE c e x && trEs c es xs
    | _ => false
def trD (c : Ctx) : Mks → List (Option Expr) → List Expr → Bool
  | .nil => fun ks vs => match ks, vs with
    | [], [] => true
    | _, _ => false
  | .cons k v r => fun ks vs => match ks, vs with
    | some x :: ks, y :: vs => trE c k x && trE c v y && trD c r ks vs
    | _, _ => false
/-- at least two operands -/
def trB (c : Ctx) : Mes → List Expr → Bool
  | .cons a (.cons b .nil) => fun xs => match xs with
    | [x, y] => trE c a x && trE c b y
    | _ => false
  | .cons a (.cons b (.cons d es)) => fun xs => match xs with
    | x :: y :: z :: xs => trE c a x && trB c (.cons b (.cons d es)) (y :: z :: xs)
    | _ => false
  | _ => fun _ => false
def trK (c : Ctx) (f : Str) : Mes → List Expr → Bool
  | .cons a .nil => fun xs => match xs with
    | [x] => notStar x && trE c a x && decide (f ∈ (["len", "repr", "list", "abs", "tuple", "all", "any", "sum"] : List Str))
    | _ => false
  | .cons a (.cons b .nil) => fun xs => match xs with
    | [x, y] => notStar x && notStar y && trE c a x && trE c b y && decide (f ∈ (["max", "min"] : List Str))
    | _ => false
  | _ => fun _ => false
def trM (c : Ctx) (m : Str) : Mes → List Expr → Bool
  | .cons a .nil => fun xs => match xs with
    | [x] => notStar x && trE c a x && decide (m ∈ (["join", "append"] : List Str))
    | _ => false
  | _ => fun _ => false
def trO (c : Ctx) : Mo → Option Expr → Bool
  | .none => fun o => match o with
    | none => true
    | _ => false
  | .some e => fun o => match o with
    | some x => trE c e x
    | _ => false
def trF (c : Ctx) : Mo → List Expr → Bool
  | .none => fun o => match o with
    | [] => true
    | _ => false
  | .some e => fun o => match o with
    | [x] => trE c e x
    | _ => false
def trT (c : Ctx) : Mt → Expr → Bool
  | .name i => fun e => match e with
    | .Name x _ => decide (c.N[i]? = some x) && setB c x
    | _ => false
  | .tup ts => fun e => match e with
    | .Tuple xs _ _ => trTs c ts xs
    | _ => false
  | .sub a i => fun e => match e with
    | .Subscript x y _ => notSlice y && trE c a x && trE c i y
    | _ => false
def trTs (c : Ctx) : Mts → List Expr → Bool
  | .nil => fun xs => match xs with
    | [] => true
    | _ => false
  | .cons t ts => fun xs => match xs with
    | x :: xs => notStar x && trT c t x && trTs c ts xs
    | _ => false
def trI (c : Ctx) : Mi → Expr → Expr → Bool
  | .val a => fun _ e => trE c a e
  | .range (.cons a .nil) => fun _ e => match e with
    | .Call (.Name x _) [y] [] _ => decide (x = ("range" : Str)) && glB c x && notStar y && trE c a y
    | _ => false
  | .range (.cons a (.cons b .nil)) => fun _ e => match e with
    | .Call (.Name x _) [y, z] [] _ => decide (x = ("range" : Str)) && glB c x && notStar y && notStar z && trE c a y && trE c b z
    | _ => false
  | .range _ => fun _ _ => false
  | .zip a b => fun t e => match t, e with
    | .Tuple _ _ _, .Call (.Name x _) [y, z] [] _ => decide (x = ("zip" : Str)) && glB c x && notStar y && notStar z && trE c a y && trE c b z
    | _, _ => false
  | .enum a => fun t e => match t, e with
    | .Tuple _ _ _, .Call (.Name x _) [y] [] _ => decide (x = ("enumerate" : Str)) && glB c x && notStar y && trE c a y
    | _, _ => false
end
end MP
set_option maxRecDepth 100000
set_option maxHeartbeats 4000000
namespace MP
open PySem PySem.Spec PyProof.Rows L2
theorem tys_of {c : Ctx} : ∀ {Ts : List String} {es : List Expr}, tyChk c Ts es = true → ∃ qs, es = tyExprs Ts qs ∧ Ts.length = qs.length ∧ ∀ T ∈ Ts, T ∈ tyNames ∧ glB c T = true
  | [], [], _ => ⟨[], rfl, rfl, fun _ h => nomatch h⟩
  | [], _ :: _, h => absurd h Bool.false_ne_true
  | _ :: _, [], h => absurd h Bool.false_ne_true
  | T :: Ts, e :: es, h => by
    cases e with
    | Name x q =>
      have h : (decide (x = Str.ofString T) && tyNames.contains T && glB c x && tyChk c Ts es) = true := h
      simp only [Bool.and_eq_true, decide_eq_true_eq, List.contains_iff_mem] at h
      obtain ⟨⟨⟨rfl, h1⟩, h2⟩, h3⟩ := h
      obtain ⟨qs, rfl, h4, h5⟩ := tys_of h3
      refine ⟨q :: qs, rfl, by simp [h4], fun U hU => ?_⟩
      rcases List.mem_cons.mp hU with rfl | hU
      · exact ⟨h1, h2⟩
      · exact h5 U hU
    | _ => exact absurd h Bool.false_ne_true
section
variable {G : Pg} {lvl : Nat} {C : Cn}
theorem trEs_star {c : Ctx} : ∀ {es : Mes} {xs : List Expr}, trEs c es xs = true → xs.all notStar = true
  | .nil, [], _ => rfl
  | .nil, _ :: _, h => absurd h Bool.false_ne_true
  | .cons _ _, [], h => absurd h Bool.false_ne_true
  | .cons e es, x :: xs, h => by
    have h : (notStar x && trE c e x && trEs c es xs) = true := h
    simp only [Bool.and_eq_true] at h
    rw [List.all_cons, h.1.1, trEs_star h.2]
    rfl
theorem takesF {X : Cx} : Takes X WF := fun _ _ x => by
  obtain ⟨_, _, _, _, _, _, _, _, _, _, _, _, _, _, _, _, z⟩ := x
  exact z.elim
/-- an expression that is right -/
def OkM (G : Pg) (lvl : Nat) (C : Cn) (m : Me) : Prop := ∀ (c : Ctx) (X : Cx) (Wx : WX) (e : Expr), Fc G C lvl c.fs → Gx G lvl c X → Takes X Wx → trE c m e = true → OkE G Wx X (ev C m) e
def OkMs (G : Pg) (lvl : Nat) (C : Cn) (m : Mes) : Prop := ∀ (c : Ctx) (X : Cx) (Wx : WX) (es : List Expr), Fc G C lvl c.fs → Gx G lvl c X → Takes X Wx → trEs c m es = true → PA X es (tA G Wx (evs C m))
theorem ok_var {i : Nat} : OkM G lvl C (.var i) := by
  intro c X Wx e F g tk h
  cases e with
  | Name x p =>
    have h : (decide (c.N[i]? = some x) && visB c x && debB x) = true := h
    simp only [Bool.and_eq_true, decide_eq_true_eq] at h
    exact OkE.ofV g (e_var g h.1.1 h.1.2 h.2) rfl
  | _ => exact absurd h Bool.false_ne_true
theorem ok_glob {y : Str} : OkM G lvl C (.glob y) := by
  intro c X Wx e F g tk h
  cases e with
  | Name x p =>
    have h : (decide (x = y) && glB c x && debB x) = true := h
    simp only [Bool.and_eq_true, decide_eq_true_eq] at h
    obtain ⟨⟨rfl, h1⟩, h2⟩ := h
    exact OkE.ofV g (e_glob F g h1 h2) rfl
  | _ => exact absurd h Bool.false_ne_true
theorem ok_non : OkM G lvl C .non := by
  intro c X Wx e F g tk h
  cases e with
  | Constant k j p =>
    cases k with
    | none => exact OkE.ofV g (e_const pe_non fun _ _ => .non) rfl
    | _ => exact absurd h Bool.false_ne_true
  | _ => exact absurd h Bool.false_ne_true
theorem ok_bl {b : Bool} : OkM G lvl C (.bl b) := by
  intro c X Wx e F g tk h
  cases e with
  | Constant k j p =>
    cases k with
    | bool b' =>
      have h : decide (b = b') = true := h
      have h := of_decide_eq_true h
      subst h
      exact OkE.ofV g (e_const pe_bl fun _ _ => .bl b) rfl
    | _ => exact absurd h Bool.false_ne_true
  | _ => exact absurd h Bool.false_ne_true
theorem ok_int {b : Int} : OkM G lvl C (.int b) := by
  intro c X Wx e F g tk h
  cases e with
  | Constant k j p =>
    cases k with
    | int b' =>
      have h : decide (b = b') = true := h
      have h := of_decide_eq_true h
      subst h
      exact OkE.ofV g (e_const pe_int fun _ _ => .int b) rfl
    | _ => exact absurd h Bool.false_ne_true
  | _ => exact absurd h Bool.false_ne_true
theorem ok_str {b : Str} : OkM G lvl C (.str b) := by
  intro c X Wx e F g tk h
  cases e with
  | Constant k j p =>
    cases k with
    | str b' =>
      have h : decide (b = b') = true := h
      have h := of_decide_eq_true h
      subst h
      exact OkE.ofV g (e_const pe_str fun _ _ => .str b) rfl
    | _ => exact absurd h Bool.false_ne_true
  | _ => exact absurd h Bool.false_ne_true
def OkMi (G : Pg) (lvl : Nat) (C : Cn) (m : Mi) : Prop := ∀ (c : Ctx) (X : Cx) (Wx : WX) (t e : Expr), Fc G C lvl c.fs → Gx G lvl c X → Takes X Wx → trI c m t e = true → PI X t e (tI G Wx (evi C m))
def OkMt (G : Pg) (lvl : Nat) (C : Cn) (m : Mt) : Prop := ∀ (c : Ctx) (X : Cx) (Wx : WX) (e : Expr), Fc G C lvl c.fs → Gx G lvl c X → Takes X Wx → trT c m e = true → PG X e (tG G (slT m) (evt C m))
def OkMf (G : Pg) (lvl : Nat) (C : Cn) (m : Mo) : Prop := ∀ (c : Ctx) (X : Cx) (Wx : WX) (o : List Expr), Fc G C lvl c.fs → Gx G lvl c X → Takes X Wx → trF c m o = true → PTs X o (tT G Wx (evf C m))
theorem okLc (elt : Me) (tg : Mt) (src : Mi) (ifs : Mo) (own : List Nat) (c : Ctx) (X : Cx) (Wx : WX) (x t it : Expr) (ifx : List Expr) (scope : Scope) (n : Int) (F : Fc G C lvl c.fs) (g : Gx G lvl c X) (tk : Takes X Wx) (iI : OkMi G lvl C src) (iT : OkMt G lvl C tg) (iF : OkMf G lvl C ifs) (iE : OkM G lvl C elt) (h : (decide (n = 0) && notSet it && blkC c.N { kind := .function, names := c.names, isGenerator := false, isCoroutine := false } scope (ownN c.N own) && decide ((ownN c.N own).map (·.2) = own) && (slT tg).all (fun i => own.contains i) &&
      trI c src t it && trT (c.blk scope) tg t && trF (c.blk scope) ifs ifx && trE (c.blk scope) elt x) = true) :
    n = 0 ∧ PI X t it (tI G Wx (evi C src)) ∧ notSet it = true ∧ BlkOk X.N X.env.scope scope (ownN c.N own) ∧ ((∀ i ∈ slT tg, i ∈ (ownN c.N own).map (·.2)) ∧ (ownN c.N own).map (·.2) = own) ∧
      (∀ (s : Shared) (H : Hp) (A0 : Addr) (cl : List (Str × Addr)) (fp : List Addr), PG (X.blk s H scope (compEnvC scope cl A0 X.env) fp) t (tG G (slT tg) (evt C tg))) ∧
      (∀ (s : Shared) (H : Hp) (A0 : Addr) (cl : List (Str × Addr)) (fp : List Addr), PTs (X.blk s H scope (compEnvC scope cl A0 X.env) fp) ifx (tT G WF (evf C ifs))) ∧
      (∀ (s : Shared) (H : Hp) (A0 : Addr) (cl : List (Str × Addr)) (fp : List Addr), PE (X.blk s H scope (compEnvC scope cl A0 X.env) fp) x (tV G WF (ev C elt).v)) := by
  simp only [Bool.and_eq_true, decide_eq_true_eq, List.all_eq_true, List.contains_iff_mem] at h
  obtain ⟨⟨⟨⟨⟨⟨⟨⟨h0, h1⟩, h2⟩, h3⟩, h4⟩, h5⟩, h6⟩, h7⟩, h8⟩ := h
  have hb := blkOk_by h2
  have gb := fun s H A0 cl fp => g.blk hb.kind s H A0 cl fp
  refine ⟨h0, iI c X Wx t it F g tk h5, h1, ⟨hb.kind, hb.uniq, by rw [g.N]; exact hb.ix, fun y hy e => by rw [g.nm]; exact hb.free y hy e, by rw [g.N]; exact hb.own⟩, ⟨by rw [h3]; exact h4, h3⟩, fun s H A0 cl fp => iT (c.blk scope) _ WF t F (gb s H A0 cl fp) takesF h6,
    fun s H A0 cl fp => iF (c.blk scope) _ WF ifx F (gb s H A0 cl fp) takesF h7, fun s H A0 cl fp => (iE (c.blk scope) _ WF x F (gb s H A0 cl fp) takesF h8).v⟩
mutual
theorem okE : ∀ m : Me, OkM G lvl C m
  | .var i => ok_var
  | .glob y => ok_glob
  | .non => ok_non
  | .bl b => ok_bl
  | .int b => ok_int
  | .str b => ok_str
  | .tup es => by
    intro c X Wx e F g tk h
    cases e with
    | Tuple xs k p => exact OkE.ofV g (e_tup (okEs es c X Wx xs F g tk h)) rfl
    | _ => exact absurd h Bool.false_ne_true
  | .lst es => by
    intro c X Wx e F g tk h
    cases e with
    | List xs p => exact OkE.ofL g (e_lst (okEs es c X Wx xs F g tk h)) rfl
    | _ => exact absurd h Bool.false_ne_true
  | .dct kvs => by
    intro c X Wx e F g tk h
    cases e with
    | Dict ks vs p =>
      have h : (trD c kvs ks vs && decide (ks.length ≤ 15)) = true := h
      simp only [Bool.and_eq_true, decide_eq_true_eq] at h
      obtain ⟨h1, h2⟩ := h
      cases kvs with
      | nil =>
        cases ks with
        | nil =>
          cases vs with
          | nil => exact OkE.ofV g e_dct0 rfl
          | cons _ _ => exact absurd h1 Bool.false_ne_true
        | cons _ _ => exact absurd h1 Bool.false_ne_true
      | cons k v r =>
        obtain ⟨q1, q2, q3, q4⟩ := okD (.cons k v r) c X Wx ks vs F g tk h1
        exact OkE.ofV g (e_dct (q1 p) q2 q3 (q4 (fun z => nomatch z)) h2) rfl
    | _ => exact absurd h Bool.false_ne_true
  | .frd kvs => by
    intro c X Wx e F g tk h
    cases e with
    | Dict ks vs p =>
      have h : (trD c kvs ks vs && decide (ks.length ≤ 15)) = true := h
      simp only [Bool.and_eq_true, decide_eq_true_eq] at h
      obtain ⟨h1, h2⟩ := h
      cases kvs with
      | nil =>
        cases ks with
        | nil =>
          cases vs with
          | nil => exact OkE.ofV g e_frd0 rfl
          | cons _ _ => exact absurd h1 Bool.false_ne_true
        | cons _ _ => exact absurd h1 Bool.false_ne_true
      | cons k v r =>
        obtain ⟨q1, q2, q3, q4⟩ := okD (.cons k v r) c X Wx ks vs F g tk h1
        exact OkE.ofV g (e_frd (q1 p) q2 q3 (q4 (fun z => nomatch z)) h2) rfl
    | _ => exact absurd h Bool.false_ne_true
  | .frz a => by
    intro c X Wx e F g tk h
    have h : (isL a && plT e && trE c a e) = true := h
    simp only [Bool.and_eq_true] at h
    exact OkE.ofV g (e_frz ((okE a c X Wx e F g tk h.2).l (isL_e h.1.1))) h.1.2
  | .lrep a n => by
    intro c X Wx e F g tk h
    cases e with
    | BinOp x o y p =>
      cases o with
      | Mult =>
        have h : (isL a && trE c a x && trE c n y) = true := h
        simp only [Bool.and_eq_true] at h
        obtain ⟨⟨h1, h2⟩, h3⟩ := h
        exact OkE.ofL g (e_lrep ((okE a c X Wx x F g tk h2).l (isL_e h1)) (okE n c X Wx y F g tk h3).v) rfl
      | _ => exact absurd h Bool.false_ne_true
    | _ => exact absurd h Bool.false_ne_true
  | .lcat a b => by
    intro c X Wx e F g tk h
    cases e with
    | BinOp x o y p =>
      cases o with
      | Add =>
        have h : (trE c a x && trE c b y) = true := h
        simp only [Bool.and_eq_true] at h
        exact OkE.ofL g (e_lcat g (okE a c X Wx x F g tk h.1) (okE b c X Wx y F g tk h.2)) rfl
      | _ => exact absurd h Bool.false_ne_true
    | _ => exact absurd h Bool.false_ne_true
  | .lcut a lo hi => by
    intro c X Wx e F g tk h
    cases e with
    | Subscript x s p =>
      cases s with
      | Slice l u st p2 =>
        cases st with
        | none =>
          have h : (trE c a x && trO c lo l && trO c hi u) = true := h
          simp only [Bool.and_eq_true] at h
          obtain ⟨⟨h1, h2⟩, h3⟩ := h
          exact OkE.ofL g (e_lcut g (okE a c X Wx x F g tk h1) (okO lo c X Wx l F g tk h2) (okO hi c X Wx u F g tk h3)) rfl
        | some _ => exact absurd h Bool.false_ne_true
      | _ => exact absurd h Bool.false_ne_true
    | _ => exact absurd h Bool.false_ne_true
  | .bin op a b => by
    intro c X Wx e F g tk h
    cases e with
    | BinOp x o y p =>
      have h : (decide (o = op) && trE c a x && trE c b y) = true := h
      simp only [Bool.and_eq_true, decide_eq_true_eq] at h
      obtain ⟨⟨rfl, h2⟩, h3⟩ := h
      exact OkE.ofV g (e_bin g (okE a c X Wx x F g tk h2).v (okE b c X Wx y F g tk h3).v) rfl
    | _ => exact absurd h Bool.false_ne_true
  | .neg a => by
    intro c X Wx e F g tk h
    cases e with
    | UnaryOp o x p =>
      cases o with
      | USub => exact OkE.ofV g (e_neg (okE a c X Wx x F g tk h).v) rfl
      | _ => exact absurd h Bool.false_ne_true
    | _ => exact absurd h Bool.false_ne_true
  | .not a => by
    intro c X Wx e F g tk h
    cases e with
    | UnaryOp o x p =>
      cases o with
      | Not => exact e_not g (okE a c X Wx x F g tk h)
      | _ => exact absurd h Bool.false_ne_true
    | _ => exact absurd h Bool.false_ne_true
  | .boolop op es => by
    intro c X Wx e F g tk h
    cases e with
    | BoolOp o xs p =>
      have h : (decide (o = op) && trB c es xs) = true := h
      simp only [Bool.and_eq_true, decide_eq_true_eq] at h
      obtain ⟨rfl, h2⟩ := h
      obtain ⟨q1, q2, q3⟩ := okB es c X Wx xs o p F g tk h2
      exact b_end g q1 q2 q3
    | _ => exact absurd h Bool.false_ne_true
  | .cmp op a b => by
    intro c X Wx e F g tk h
    cases e with
    | Compare x os ys p =>
      rcases os with _ | ⟨o, _ | ⟨_, _⟩⟩ <;> rcases ys with _ | ⟨y, _ | ⟨_, _⟩⟩ <;> first
        | exact absurd h Bool.false_ne_true
        | skip
      have h : (decide (o = op) && notSet y && trE c a x && trE c b y) = true := h
      simp only [Bool.and_eq_true, decide_eq_true_eq] at h
      obtain ⟨⟨⟨rfl, h1⟩, h2⟩, h3⟩ := h
      exact e_cmp g (okE a c X Wx x F g tk h2) (okE b c X Wx y F g tk h3) h1
    | _ => exact absurd h Bool.false_ne_true
  | .chain op1 op2 a b d => by
    intro c X Wx e F g tk h
    cases e with
    | Compare x os ys p =>
      rcases os with _ | ⟨o, _ | ⟨o2, _ | ⟨_, _⟩⟩⟩ <;> rcases ys with _ | ⟨y, _ | ⟨z, _ | ⟨_, _⟩⟩⟩ <;> first
        | exact absurd h Bool.false_ne_true
        | skip
      have h : (decide (o = op1) && decide (o2 = op2) && notSet z && trE c a x && trE c b y && trE c d z) = true := h
      simp only [Bool.and_eq_true, decide_eq_true_eq] at h
      obtain ⟨⟨⟨⟨⟨rfl, rfl⟩, h1⟩, h2⟩, h3⟩, h4⟩ := h
      exact e_chain g (okE a c X Wx x F g tk h2) (okE b c X Wx y F g tk h3) (okE d c X Wx z F g tk h4) h1
    | _ => exact absurd h Bool.false_ne_true
  | .ife k a b => by
    intro c X Wx e F g tk h
    cases e with
    | IfExp x y z p =>
      have h : (trE c k x && trE c a y && trE c b z) = true := h
      simp only [Bool.and_eq_true] at h
      obtain ⟨⟨h1, h2⟩, h3⟩ := h
      exact e_ite (okE k c X Wx x F g tk h1) (okE a c X Wx y F g tk h2) (okE b c X Wx z F g tk h3)
    | _ => exact absurd h Bool.false_ne_true
  | .call f es => by
    intro c X Wx e F g tk h
    cases e with
    | Call fn xs ks p =>
      cases fn with
      | Name x q =>
        cases ks with
        | nil =>
          have h : (decide (x = f) && decide (f ∈ c.fs) && glB c f && debB f && trEs c es xs) = true := h
          simp only [Bool.and_eq_true, decide_eq_true_eq] at h
          obtain ⟨⟨⟨⟨rfl, h1⟩, h2⟩, h3⟩, h4⟩ := h
          cases xs with
          | nil =>
            cases es with
            | nil => exact OkE.ofV g (e_call0 F g tk h1 h2 h3) rfl
            | cons _ _ => exact absurd h4 Bool.false_ne_true
          | cons y ys => exact OkE.ofV g (e_call F g tk h1 h2 h3 (trEs_star h4) (okEs es c X Wx (y :: ys) F g tk h4)) rfl
        | cons _ _ => exact absurd h Bool.false_ne_true
      | _ => exact absurd h Bool.false_ne_true
    | _ => exact absurd h Bool.false_ne_true
  | .blt f es => by
    intro c X Wx e F g tk h
    cases e with
    | Call fn xs ks p =>
      cases fn with
      | Name x q =>
        cases ks with
        | nil =>
          have h : (decide (x = f) && glB c f && trK c f es xs) = true := h
          simp only [Bool.and_eq_true, decide_eq_true_eq] at h
          obtain ⟨⟨rfl, h1⟩, h2⟩ := h
          exact okK es c X Wx x xs q p F g tk h1 h2
        | cons _ _ => exact absurd h Bool.false_ne_true
      | _ => exact absurd h Bool.false_ne_true
    | _ => exact absurd h Bool.false_ne_true
  | .isi a ts => by
    intro c X Wx e F g tk h
    cases e with
    | Call fn xs ks p =>
      cases fn with
      | Name x q =>
        rcases xs with _ | ⟨y, _ | ⟨z, _ | ⟨_, _⟩⟩⟩ <;> cases ks <;> first
          | exact absurd h Bool.false_ne_true
          | skip
        cases z with
        | Name w pw =>
          have h : (decide (x = ("isinstance" : Str)) && glB c x && notStar y && trE c a y && tyChk c ts [.Name w pw]) = true := h
          simp only [Bool.and_eq_true, decide_eq_true_eq] at h
          obtain ⟨⟨⟨⟨rfl, h1⟩, h2⟩, h3⟩, h4⟩ := h
          rcases ts with _ | ⟨T, _ | ⟨_, _⟩⟩
          · exact absurd h4 Bool.false_ne_true
          · have h4 : (decide (w = Str.ofString T) && tyNames.contains T && glB c w && true) = true := h4
            simp only [Bool.and_eq_true, decide_eq_true_eq, List.contains_iff_mem] at h4
            obtain ⟨⟨⟨rfl, h5⟩, h6⟩, _⟩ := h4
            exact OkE.ofV g (k_isi1 F g h1 h2 (okE a c X Wx y F g tk h3).v h5 h6) rfl
          · have h4 : (decide (w = Str.ofString T) && tyNames.contains T && glB c w && false) = true := h4
            rw [Bool.and_false] at h4
            exact absurd h4 Bool.false_ne_true
        | Tuple zs k pw =>
          have h : (decide (x = ("isinstance" : Str)) && glB c x && notStar y && trE c a y && (tyChk c ts zs && decide (ts.length ≤ 20))) = true := h
          simp only [Bool.and_eq_true, decide_eq_true_eq] at h
          obtain ⟨⟨⟨⟨rfl, h1⟩, h2⟩, h3⟩, h4, h5⟩ := h
          obtain ⟨qs, rfl, h6, h7⟩ := tys_of h4
          exact OkE.ofV g (k_isiT F g h1 h2 (okE a c X Wx y F g tk h3).v h6 (by rw [sizeLine_eq]; omega) h7) rfl
        | _ =>
          have h : (decide (x = ("isinstance" : Str)) && glB c x && notStar y && trE c a y && false) = true := h
          rw [Bool.and_false] at h
          exact absurd h Bool.false_ne_true
      | _ => exact absurd h Bool.false_ne_true
    | _ => exact absurd h Bool.false_ne_true
  | .sub a i => by
    intro c X Wx e F g tk h
    cases e with
    | Subscript x y p =>
      have h : (notSlice y && trE c a x && trE c i y) = true := h
      simp only [Bool.and_eq_true] at h
      exact e_sub g (okE a c X Wx x F g tk h.1.2) (okE i c X Wx y F g tk h.2) h.1.1
    | _ => exact absurd h Bool.false_ne_true
  | .slice a lo hi => by
    intro c X Wx e F g tk h
    cases e with
    | Subscript x s p =>
      cases s with
      | Slice l u st p2 =>
        cases st with
        | none =>
          have h : (trE c a x && trO c lo l && trO c hi u) = true := h
          simp only [Bool.and_eq_true] at h
          obtain ⟨⟨h1, h2⟩, h3⟩ := h
          exact OkE.ofV g (e_slice g (okE a c X Wx x F g tk h1).v (okO lo c X Wx l F g tk h2) (okO hi c X Wx u F g tk h3)) rfl
        | some _ => exact absurd h Bool.false_ne_true
      | _ => exact absurd h Bool.false_ne_true
    | _ => exact absurd h Bool.false_ne_true
  | .attr a f => by
    intro c X Wx e F g tk h
    exact absurd h Bool.false_ne_true
  | .bm m a es => by
    intro c X Wx e F g tk h
    cases e with
    | Call fn xs ks p =>
      cases fn with
      | Attribute x n ap =>
        cases ks with
        | nil =>
          have h : (decide (n = m) && notSup x && (ap.endLine == p.line) && trE c a x && trM c m es xs) = true := h
          simp only [Bool.and_eq_true, decide_eq_true_eq] at h
          obtain ⟨⟨⟨⟨rfl, h1⟩, h2⟩, h3⟩, h4⟩ := h
          exact okMm es c X Wx n x xs ap p (ev C a) F g tk (okE a c X Wx x F g tk h3) h1 h2 h4
        | cons _ _ => exact absurd h Bool.false_ne_true
      | _ => exact absurd h Bool.false_ne_true
    | _ => exact absurd h Bool.false_ne_true
  | .lcomp elt tg src ifs own => by
    intro c X Wx e F g tk h
    cases e with
    | ListComp x gens scope p =>
      rcases gens with _ | ⟨⟨t, it, ifx, n⟩, _ | ⟨_, _⟩⟩
      · exact absurd h Bool.false_ne_true
      · have q := okLc elt tg src ifs own c X Wx x t it ifx scope n F g tk (okI src) (okT tg) (okF ifs) (okE elt) h
        obtain ⟨q0, q⟩ := q
        subst q0
        exact OkE.ofL g (PE.imp (pe_lc g.calm (by rw [g.N]; exact g.nd) q.1 q.2.2.1 q.2.2.2.2.1 q.2.2.2.2.2.1 q.2.2.2.2.2.2 (hs := fold_ok q.2.1)) fun σ H Q hQ => by
            refine e_lcomp g q.1 q.2.2.1 q.2.2.2.1.1 q.2.2.2.2.1 q.2.2.2.2.2.1 q.2.2.2.2.2.2 σ H Q ?_
            rw [q.2.2.2.1.2]
            exact hQ) rfl
      · exact absurd h Bool.false_ne_true
    | _ => exact absurd h Bool.false_ne_true
theorem okEs : ∀ m : Mes, OkMs G lvl C m
  | .nil => by
    intro c X Wx es F g tk h
    cases es with
    | nil => exact a_nil
    | cons _ _ => exact absurd h Bool.false_ne_true
  | .cons e es => by
    intro c X Wx xs F g tk h
    cases xs with
    | nil => exact absurd h Bool.false_ne_true
    | cons x xs =>
      have h : (notStar x && trE c e x && trEs c es xs) = true := h
      simp only [Bool.and_eq_true] at h
      exact a_cons (okE e c X Wx x F g tk h.1.2).v (okEs es c X Wx xs F g tk h.2) h.1.1
theorem okD : ∀ (m : Mks) (c : Ctx) (X : Cx) (Wx : WX) (ks : List (Option Expr)) (vs : List Expr), Fc G C lvl c.fs → Gx G lvl c X → Takes X Wx → trD c m ks vs = true →
    (∀ pos, PD X pos ks vs (tD G Wx (evd C m))) ∧ ks.all (·.isSome) = true ∧ ks.length = vs.length ∧ (m ≠ .nil → ks ≠ [])
  | .nil => by
    intro c X Wx ks vs F g tk h
    cases ks with
    | nil =>
      cases vs with
      | nil => exact ⟨fun _ => d_nil, rfl, rfl, fun z => absurd rfl z⟩
      | cons _ _ => exact absurd h Bool.false_ne_true
    | cons _ _ => exact absurd h Bool.false_ne_true
  | .cons k v r => by
    intro c X Wx ks vs F g tk h
    cases ks with
    | nil => exact absurd h Bool.false_ne_true
    | cons o ks =>
      cases vs with
      | nil => cases o <;> exact absurd h Bool.false_ne_true
      | cons y vs =>
        cases o with
        | none => exact absurd h Bool.false_ne_true
        | some x =>
          have h : (trE c k x && trE c v y && trD c r ks vs) = true := h
          simp only [Bool.and_eq_true] at h
          obtain ⟨q1, q2, q3, _⟩ := okD r c X Wx ks vs F g tk h.2
          exact ⟨fun pos => d_cons (okE k c X Wx x F g tk h.1.1).v (okE v c X Wx y F g tk h.1.2).v (q1 pos), by rw [List.all_cons, q2]; rfl, by rw [List.length_cons, List.length_cons, q3], fun _ z => nomatch z⟩
theorem okB : ∀ (m : Mes) (c : Ctx) (X : Cx) (Wx : WX) (xs : List Expr) (op : BoolOp) (pos : Pos), Fc G C lvl c.fs → Gx G lvl c X → Takes X Wx → trB c m xs = true →
    OkB G Wx X (evb C op m) (.BoolOp op xs pos) ∧ (evb C op m).e = false ∧ ∀ ℓ h, (evb C op m).l ℓ h = ((evb C op m).v ℓ h).bind fun w h => seqR h w
  | .nil => fun c X Wx xs op pos F g tk h => absurd h Bool.false_ne_true
  | .cons a .nil => fun c X Wx xs op pos F g tk h => absurd h Bool.false_ne_true
  | .cons a (.cons b .nil) => by
    intro c X Wx xs op pos F g tk h
    rcases xs with _ | ⟨x, _ | ⟨y, _ | ⟨_, _⟩⟩⟩ <;> first
      | exact absurd h Bool.false_ne_true
      | skip
    have h : (trE c a x && trE c b y) = true := h
    simp only [Bool.and_eq_true] at h
    exact ⟨b_more g (okE a c X Wx x F g tk h.1) (b_one (okE b c X Wx y F g tk h.2)), rfl, fun _ _ => rfl⟩
  | .cons a (.cons b (.cons d es)) => by
    intro c X Wx xs op pos F g tk h
    rcases xs with _ | ⟨x, _ | ⟨y, _ | ⟨z, xs⟩⟩⟩ <;> first
      | exact absurd h Bool.false_ne_true
      | skip
    have h : (trE c a x && trB c (.cons b (.cons d es)) (y :: z :: xs)) = true := h
    simp only [Bool.and_eq_true] at h
    obtain ⟨q1, q2, q3⟩ := okB (.cons b (.cons d es)) c X Wx (y :: z :: xs) op pos F g tk h.2
    exact ⟨b_more g (okE a c X Wx x F g tk h.1) q1, rfl, fun _ _ => rfl⟩
theorem okK : ∀ (m : Mes) (c : Ctx) (X : Cx) (Wx : WX) (f : Str) (xs : List Expr) (p pos : Pos), Fc G C lvl c.fs → Gx G lvl c X → Takes X Wx → glB c f = true → trK c f m xs = true → OkE G Wx X (evk C f m) (.Call (.Name f p) xs [] pos)
  | .nil => fun c X Wx f xs p pos F g tk hg h => absurd h Bool.false_ne_true
  | .cons a .nil => by
    intro c X Wx f xs p pos F g tk hg h
    rcases xs with _ | ⟨x, _ | ⟨_, _⟩⟩ <;> first
      | exact absurd h Bool.false_ne_true
      | skip
    have h : (notStar x && trE c a x && decide (f ∈ (["len", "repr", "list", "abs", "tuple", "all", "any", "sum"] : List Str))) = true := h
    simp only [Bool.and_eq_true, decide_eq_true_eq] at h
    obtain ⟨⟨h1, h2⟩, h3⟩ := h
    have ih := okE a c X Wx x F g tk h2
    simp only [List.mem_cons, List.not_mem_nil, or_false] at h3
    rcases h3 with rfl | rfl | rfl | rfl | rfl | rfl | rfl | rfl
    · exact OkE.ofV g (k_len F g hg h1 ih) rfl
    · exact OkE.ofV g (k_repr F g hg h1 ih) rfl
    · exact OkE.ofL g (k_list F g hg h1 ih) rfl
    · exact OkE.ofV g (k_abs F g hg h1 ih.v) rfl
    · exact OkE.ofV g (k_tuple F g hg h1 ih) rfl
    · exact OkE.ofV g (k_all F g hg h1 ih) rfl
    · exact OkE.ofV g (k_any F g hg h1 ih) rfl
    · exact OkE.ofV g (k_sum F g hg h1 ih) rfl
  | .cons a (.cons b .nil) => by
    intro c X Wx f xs p pos F g tk hg h
    rcases xs with _ | ⟨x, _ | ⟨y, _ | ⟨_, _⟩⟩⟩ <;> first
      | exact absurd h Bool.false_ne_true
      | skip
    have h : (notStar x && notStar y && trE c a x && trE c b y && decide (f ∈ (["max", "min"] : List Str))) = true := h
    simp only [Bool.and_eq_true, decide_eq_true_eq] at h
    obtain ⟨⟨⟨⟨h1, h2⟩, h3⟩, h4⟩, h5⟩ := h
    have iha := okE a c X Wx x F g tk h3
    have ihb := okE b c X Wx y F g tk h4
    simp only [List.mem_cons, List.not_mem_nil, or_false] at h5
    rcases h5 with rfl | rfl
    · exact OkE.ofV g (k_max F g hg h1 h2 iha.v ihb.v) rfl
    · exact OkE.ofV g (k_min F g hg h1 h2 iha.v ihb.v) rfl
  | .cons a (.cons b (.cons d es)) => fun c X Wx f xs p pos F g tk hg h => absurd h Bool.false_ne_true
theorem okMm : ∀ (m : Mes) (c : Ctx) (X : Cx) (Wx : WX) (f : Str) (x : Expr) (xs : List Expr) (ap pos : Pos) (sa : Sm), Fc G C lvl c.fs → Gx G lvl c X → Takes X Wx → OkE G Wx X sa x → notSup x = true → (ap.endLine == pos.line) = true → trM c f m xs = true → OkE G Wx X (evm C f sa m) (.Call (.Attribute x f ap) xs [] pos)
  | .nil => fun c X Wx f x xs p pos sa F g tk ha h1 h2 h => absurd h Bool.false_ne_true
  | .cons b .nil => by
    intro c X Wx f x xs p pos sa F g tk ha h1 h2 h
    rcases xs with _ | ⟨y, _ | ⟨_, _⟩⟩ <;> first
      | exact absurd h Bool.false_ne_true
      | skip
    have h : (notStar y && trE c b y && decide (f ∈ (["join", "append"] : List Str))) = true := h
    simp only [Bool.and_eq_true, decide_eq_true_eq] at h
    obtain ⟨⟨h3, h4⟩, h5⟩ := h
    have ih := okE b c X Wx y F g tk h4
    simp only [List.mem_cons, List.not_mem_nil, or_false] at h5
    rcases h5 with rfl | rfl
    · exact OkE.ofV g (k_join g ha.v ih h3 h1 h2) rfl
    · exact OkE.ofV g (k_append g ha.v ih.v h3 h1 h2) rfl
  | .cons b (.cons d es) => fun c X Wx f x xs p pos sa F g tk ha h1 h2 h => absurd h Bool.false_ne_true
theorem okO : ∀ (m : Mo) (c : Ctx) (X : Cx) (Wx : WX) (o : Option Expr), Fc G C lvl c.fs → Gx G lvl c X → Takes X Wx → trO c m o = true → PO X o (tP G Wx (evo C m))
  | .none => by
    intro c X Wx o F g tk h
    cases o with
    | none => exact o_none
    | some _ => exact absurd h Bool.false_ne_true
  | .some e => by
    intro c X Wx o F g tk h
    cases o with
    | none => exact absurd h Bool.false_ne_true
    | some x => exact o_some (okE e c X Wx x F g tk h).v
theorem okF : ∀ (m : Mo) (c : Ctx) (X : Cx) (Wx : WX) (o : List Expr), Fc G C lvl c.fs → Gx G lvl c X → Takes X Wx → trF c m o = true → PTs X o (tT G Wx (evf C m))
  | .none => by
    intro c X Wx o F g tk h
    cases o with
    | nil => exact ⟨fun pins s σ H Q I ⟨ι, hh, ℓ, r, lr, p⟩ => pts_nil.run pins s σ H Q I (p.ok r)⟩
    | cons _ _ => exact absurd h Bool.false_ne_true
  | .some e => by
    intro c X Wx o F g tk h
    rcases o with _ | ⟨x, _ | ⟨_, _⟩⟩
    · exact absurd h Bool.false_ne_true
    · exact pts_one (okE e c X Wx x F g tk h).t
    · exact absurd h Bool.false_ne_true
theorem okT : ∀ (m : Mt) (c : Ctx) (X : Cx) (Wx : WX) (e : Expr), Fc G C lvl c.fs → Gx G lvl c X → Takes X Wx → trT c m e = true → PG X e (tG G (slT m) (evt C m))
  | .name i => by
    intro c X Wx e F g tk h
    cases e with
    | Name x p =>
      have h : (decide (c.N[i]? = some x) && setB c x) = true := h
      simp only [Bool.and_eq_true, decide_eq_true_eq] at h
      exact g_name g h.1 h.2
    | _ => exact absurd h Bool.false_ne_true
  | .tup ts => by
    intro c X Wx e F g tk h
    cases e with
    | Tuple xs k p =>
      obtain ⟨q1, q2, q3⟩ := okTs ts c X Wx xs F g tk h
      exact g_tup g q2 q3 q1
    | _ => exact absurd h Bool.false_ne_true
  | .sub a i => by
    intro c X Wx e F g tk h
    cases e with
    | Subscript x y p =>
      have h : (notSlice y && trE c a x && trE c i y) = true := h
      simp only [Bool.and_eq_true] at h
      exact g_sub h.1.1 (okE a c X Wx x F g tk h.1.2).v (okE i c X Wx y F g tk h.2).v
    | _ => exact absurd h Bool.false_ne_true
theorem okTs : ∀ (m : Mts) (c : Ctx) (X : Cx) (Wx : WX) (es : List Expr), Fc G C lvl c.fs → Gx G lvl c X → Takes X Wx → trTs c m es = true →
    PGs X es (tGs G (slT.slTs m) (evts C m)) ∧ es.all notStar = true ∧ ∀ ws ℓ h, ws.length ≠ es.length → ∀ σ ι H kk, ¬ Post G WF σ ι H (evts C m ws ℓ h) kk
  | .nil => by
    intro c X Wx es F g tk h
    cases es with
    | nil =>
      refine ⟨gs_nil, rfl, fun ws ℓ h hl σ ι H kk p => ?_⟩
      cases ws with
      | nil => exact hl rfl
      | cons _ _ => exact p
    | cons _ _ => exact absurd h Bool.false_ne_true
  | .cons t ts => by
    intro c X Wx es F g tk h
    cases es with
    | nil => exact absurd h Bool.false_ne_true
    | cons x xs =>
      have h : (notStar x && trT c t x && trTs c ts xs) = true := h
      simp only [Bool.and_eq_true] at h
      obtain ⟨q1, q2, q3⟩ := okTs ts c X Wx xs F g tk h.2
      refine ⟨gs_cons h.1.1 (okT t c X Wx x F g tk h.1.2) q1, by rw [List.all_cons, h.1.1, q2]; rfl, fun ws ℓ hh hl σ ι H kk p => ?_⟩
      cases ws with
      | nil => exact p
      | cons w ws =>
        have p : Post G WF σ ι H ((noX (evt C t w ℓ hh)).bind fun ℓ h => evts C ts ws ℓ h) kk := p
        revert p
        cases evt C t w ℓ hh with
        | stuck => exact fun p => p
        | exc x h' => exact fun p => p
        | ok ℓ' h' => exact fun p => q3 ws ℓ' h' (by simpa using hl) σ ι H kk p
theorem okI : ∀ (m : Mi) (c : Ctx) (X : Cx) (Wx : WX) (t e : Expr), Fc G C lvl c.fs → Gx G lvl c X → Takes X Wx → trI c m t e = true → PI X t e (tI G Wx (evi C m))
  | .val a => fun c X Wx t e F g tk h => i_val g (okE a c X Wx e F g tk h)
  | .range .nil => fun c X Wx t e F g tk h => absurd h Bool.false_ne_true
  | .range (.cons a .nil) => by
    intro c X Wx t e F g tk h
    cases e with
    | Call fn xs ks p =>
      cases fn with
      | Name x q =>
        rcases xs with _ | ⟨y, _ | ⟨_, _⟩⟩ <;> cases ks <;> first
          | exact absurd h Bool.false_ne_true
          | skip
        have h : (decide (x = ("range" : Str)) && glB c x && notStar y && trE c a y) = true := h
        simp only [Bool.and_eq_true, decide_eq_true_eq] at h
        obtain ⟨⟨⟨rfl, h1⟩, h2⟩, h3⟩ := h
        exact i_range1 F g h1 h2 (okE a c X Wx y F g tk h3).v
      | _ => exact absurd h Bool.false_ne_true
    | _ => exact absurd h Bool.false_ne_true
  | .range (.cons a (.cons b .nil)) => by
    intro c X Wx t e F g tk h
    cases e with
    | Call fn xs ks p =>
      cases fn with
      | Name x q =>
        rcases xs with _ | ⟨y, _ | ⟨z, _ | ⟨_, _⟩⟩⟩ <;> cases ks <;> first
          | exact absurd h Bool.false_ne_true
          | skip
        have h : (decide (x = ("range" : Str)) && glB c x && notStar y && notStar z && trE c a y && trE c b z) = true := h
        simp only [Bool.and_eq_true, decide_eq_true_eq] at h
        obtain ⟨⟨⟨⟨⟨rfl, h1⟩, h2⟩, h3⟩, h4⟩, h5⟩ := h
        exact i_range2 F g h1 h2 h3 (okE a c X Wx y F g tk h4).v (okE b c X Wx z F g tk h5).v
      | _ => exact absurd h Bool.false_ne_true
    | _ => exact absurd h Bool.false_ne_true
  | .range (.cons a (.cons b (.cons d es))) => fun c X Wx t e F g tk h => absurd h Bool.false_ne_true
  | .zip a b => by
    intro c X Wx t e F g tk h
    cases t with
    | Tuple elts kk tpos =>
      cases e with
      | Call fn xs ks p =>
        cases fn with
        | Name x q =>
          rcases xs with _ | ⟨y, _ | ⟨z, _ | ⟨_, _⟩⟩⟩ <;> cases ks <;> first
            | exact absurd h Bool.false_ne_true
            | skip
          have h : (decide (x = ("zip" : Str)) && glB c x && notStar y && notStar z && trE c a y && trE c b z) = true := h
          simp only [Bool.and_eq_true, decide_eq_true_eq] at h
          obtain ⟨⟨⟨⟨⟨rfl, h1⟩, h2⟩, h3⟩, h4⟩, h5⟩ := h
          exact i_zip F g h1 h2 h3 (okE a c X Wx y F g tk h4) (okE b c X Wx z F g tk h5)
        | _ => exact absurd h Bool.false_ne_true
      | _ => exact absurd h Bool.false_ne_true
    | _ => exact absurd h Bool.false_ne_true
  | .enum a => by
    intro c X Wx t e F g tk h
    cases t with
    | Tuple elts kk tpos =>
      cases e with
      | Call fn xs ks p =>
        cases fn with
        | Name x q =>
          rcases xs with _ | ⟨y, _ | ⟨_, _⟩⟩ <;> cases ks <;> first
            | exact absurd h Bool.false_ne_true
            | skip
          have h : (decide (x = ("enumerate" : Str)) && glB c x && notStar y && trE c a y) = true := h
          simp only [Bool.and_eq_true, decide_eq_true_eq] at h
          obtain ⟨⟨⟨rfl, h1⟩, h2⟩, h3⟩ := h
          exact i_enum F g h1 h2 (okE a c X Wx y F g tk h3)
        | _ => exact absurd h Bool.false_ne_true
      | _ => exact absurd h Bool.false_ne_true
    | _ => exact absurd h Bool.false_ne_true
end
end
end MP
set_option maxRecDepth 100000
set_option maxHeartbeats 4000000
namespace MP
open PySem PySem.Spec PyProof.Rows L2

/-- a, b = x, y, stored from the right -/
def parB (c : Ctx) (i j : Nat) (ts vs : List Expr) : Bool := match ts, vs with
  | [.Name x px, .Name y py], [a, b] => decide (c.N[i]? = some x) && decide (c.N[j]? = some y) && decide (i ≠ j) && decide (c.names.lookup x = some .local) && decide (c.names.lookup y = some .local) && decide (x ≠ y) &&
    (px.line == py.line) && notStar a && notStar b && !([a, b].all (foldedForSure 8)) && !([a, b].all (constantsAlone 8))
  | _, _ => false
theorem par_ok {env : Env} {x y : Str} {px py pt pt2 : Pos} {kt k2 : Nat} {a b : Expr} (hk : env.scope.kind = .function) (hx : env.scope.names.lookup x = some .local) (hy : env.scope.names.lookup y = some .local) (hne : x ≠ y) (hl : (px.line == py.line) = true)
    (ha : notStar a = true) (hb : notStar b = true) (hf : [a, b].all (foldedForSure 8) = false) (hc : [a, b].all (constantsAlone 8) = false) :
    swappedStores [.Tuple [.Name x px, .Name y py] kt pt] (.Tuple [a, b] k2 pt2) env = pure (some [x, y]) := by
  have kb : env.blockKind = .function := by unfold Env.blockKind; rw [hk]; rfl
  have kx : env.kindOf x = some .local := hx
  have ky : env.kindOf y = some .local := hy
  have hl2 : py.line = px.line := (beq_iff_eq.mp hl).symm
  have hne2 : (x == y) = false := by rw [beq_eq_false_iff_ne]; exact hne
  have hne3 : (y == x) = false := by rw [beq_eq_false_iff_ne]; exact fun z => hne z.symm
  unfold swappedStores
  simp only [kb, kx, ky, hf, hc, hl2, Expr.pos, List.length_cons, List.length_nil, List.head?_cons, Option.map_some, Option.getD_some, List.filterMap_cons, List.filterMap_nil, beq_self_eq_true, Bool.and_true, if_true, Bool.false_eq_true, if_false]
  simp [List.eraseDups, hne2, hne3, List.eraseDupsBy, List.eraseDupsBy.loop]
  intro z
  rcases z with z | z
  · cases a <;> first | exact absurd ha Bool.false_ne_true | (cases z; done)
  · cases b <;> first | exact absurd hb Bool.false_ne_true | (cases z; done)
/-- a = [.. for ..] on one line -/
def lcB (c : Ctx) (i : Nat) (t e : Expr) : Bool := match t, e with
  | .Name y py, .ListComp _ _ scope p => decide (c.N[i]? = some y) && decide (c.names.lookup y = some .local) && (py.line == p.line) && !(scope.names.any fun (n, k) => n == y && (k == .local || k == .cell))
  | _, _ => false
def lcT (c : Ctx) : Mt → Me → Expr → Expr → Bool
  | .name i, .lcomp _ _ _ _ _, te, e => lcB c i te e
  | _, _, _, _ => false
def asgB (c : Ctx) (t : Mt) (te e : Expr) : Bool := notStar te && notPar te e && (notComp e || notName te)
mutual
def trS (c : Ctx) : Ms → Stmt → Bool
  | .asg t m => fun s => match s with
    | .Assign [te] e _ => trE c m e && trT c t te && (asgB c t te e || lcT c t m te e)
    | _ => false
  | .par i j a b => fun s => match s with
    | .Assign [.Tuple ts _ _] (.Tuple [x, y] _ _) _ => parB c i j ts [x, y] && trE c a x && trE c b y
    | _ => false
  | .expr m => fun s => match s with
    | .Expr e _ => notComp e && trE c m e
    | _ => false
  | .ret m => fun s => match s with
    | .Return (some e) _ => trE c m e
    | _ => false
  | .retN => fun s => match s with
    | .Return none _ => true
    | _ => false
  | .pass => fun s => match s with
    | .Pass _ => true
    | _ => false
  | .brk => fun s => match s with
    | .Break _ => true
    | _ => false
  | .cont => fun s => match s with
    | .Continue _ => true
    | _ => false
  | .ife m a b => fun s => match s with
    | .If e x y _ => trE c m e && trSs c a x && trSs c b y
    | _ => false
  | .for t m b => fun s => match s with
    | .For te e x [] _ => notSet e && trI c m te e && trT c t te && trSs c b x
    | _ => false
  | .while m b => fun s => match s with
    | .While e x [] _ => trE c m e && trSs c b x
    | _ => false
  | .raise cl f m => fun s => match s with
    | .Raise (some (.Call (.Name x _) [e] [] _)) none _ => decide (x = cl) && decide ((x, f) ∈ c.exs) && glB c x && debB x && notStar e && trE c m e
    | _ => false
  | .try mb [d] => fun s => match s with
    | .Try body [.ExceptHandler (some (.Name y _)) (some n) [.Return (some (.List es _)) _] _] [] [] _ => decide (d.cls = y) && decide (y ∈ c.cls) && glB c y && debB y && decide (c.N[d.slot]? = some n) && decide (c.names.lookup n = some .local) && debB n &&
      hxB c n d.items es && decide (es.length ≤ 100) && trSs c mb body
    | _ => false
  | .try _ _ => fun _ => false
def trSs (c : Ctx) : Mss → List Stmt → Bool
  | .nil => fun ss => match ss with
    | [] => true
    | _ => false
  | .cons m .nil => fun ss => match ss with
    | [s] => trS c m s
    | _ => false
  | .cons m (.cons m2 ms) => fun ss => match ss with
    | s :: s2 :: ss => trS c m s && trSs c (.cons m2 ms) (s2 :: ss)
    | _ => false
end
section
variable {G : Pg} {lvl : Nat} {C : Cc}
mutual
theorem okS : ∀ (m : Ms) (c : Ctx) (X : Cx) (Wx : WX) (s : Stmt), Fc G C.cn lvl c.fs → Ec G C lvl c.exs c.cls → Sx G lvl c X Wx → trS c m s = true → PS X s (tSt G Wx (evS C m))
  | .asg t m => by
    intro c X Wx s F E S h
    cases s with
    | Assign ts e p =>
      rcases ts with _ | ⟨te, _ | ⟨_, _⟩⟩ <;> first
        | exact absurd h Bool.false_ne_true
        | skip
      have h : (trE c m e && trT c t te && (asgB c t te e || lcT c t m te e)) = true := h
      simp only [Bool.and_eq_true, Bool.or_eq_true] at h
      obtain ⟨⟨h1, h2⟩, h3⟩ := h
      rcases h3 with h3 | h3
      · unfold asgB at h3
        simp only [Bool.and_eq_true] at h3
        exact s_asg (okE m c X Wx e F S.g S.tk h1).v (okT t c X Wx te F S.g S.tk h2) h3.2 h3.1.2 h3.1.1
      · unfold lcT at h3
        split at h3
        · rename_i i elt tg src ifs own
          cases te <;> first
            | exact absurd h3 Bool.false_ne_true
            | skip
          cases e <;> first
            | exact absurd h3 Bool.false_ne_true
            | skip
          rename_i y py x gens scope pc
          have h3 : (decide (c.N[i]? = some y) && decide (c.names.lookup y = some .local) && (py.line == pc.line) && !(scope.names.any fun (n, k) => n == y && (k == .local || k == .cell))) = true := h3
          simp only [Bool.and_eq_true, decide_eq_true_eq, Bool.not_eq_true'] at h3
          obtain ⟨⟨⟨h4, h5⟩, h6⟩, h7⟩ := h3
          rcases gens with _ | ⟨⟨t', it, ifx, n⟩, _ | ⟨_, _⟩⟩
          · exact absurd h1 Bool.false_ne_true
          · have q := okLc elt tg src ifs own c X Wx x t' it ifx scope n F S.g S.tk (okI src) (okT tg) (okF ifs) (okE elt) h1
            obtain ⟨q0, q⟩ := q
            subst q0
            have z := s_setLc (Wx := Wx) (p := pc) (pos := p) S.g h4 h5 h6 h7 q.1 q.2.2.1 q.2.2.2.1.1 q.2.2.2.2.1 q.2.2.2.2.2.1 q.2.2.2.2.2.2 q.2.1
            rw [q.2.2.2.1.2] at z
            exact z
          · exact absurd h1 Bool.false_ne_true
        · exact absurd h3 Bool.false_ne_true
    | _ => exact absurd h Bool.false_ne_true
  | .par i j a b => by
    intro c X Wx s F E S h
    cases s with
    | Assign ts e p =>
      rcases ts with _ | ⟨te, _ | ⟨_, _⟩⟩
      · exact absurd h Bool.false_ne_true
      · cases te <;> first
          | exact absurd h Bool.false_ne_true
          | skip
        cases e <;> first
          | exact absurd h Bool.false_ne_true
          | skip
        rename_i ts kt pt vs kv pv
        rcases vs with _ | ⟨x, _ | ⟨y, _ | ⟨_, _⟩⟩⟩ <;> first
          | exact absurd h Bool.false_ne_true
          | skip
        have h : (parB c i j ts [x, y] && trE c a x && trE c b y) = true := h
        simp only [Bool.and_eq_true] at h
        obtain ⟨⟨h1, h2⟩, h3⟩ := h
        unfold parB at h1
        split at h1
        · rename_i n1 p1 n2 p2 x' y' heq
          cases heq
          simp only [Bool.and_eq_true, decide_eq_true_eq, Bool.not_eq_true'] at h1
          obtain ⟨⟨⟨⟨⟨⟨⟨⟨⟨⟨b1, b2⟩, b3⟩, b4⟩, b5⟩, b6⟩, b7⟩, b8⟩, b9⟩, b10⟩, b11⟩ := h1
          exact s_par S.g b1 b2 b3 b4 b5 (okE a c X Wx x F S.g S.tk h2).v (okE b c X Wx y F S.g S.tk h3).v (by rw [List.all_cons, List.all_cons, b8, b9]; rfl) fun env hk hn => par_ok hk (by rw [hn]; exact b4) (by rw [hn]; exact b5) b6 b7 b8 b9 b10 b11
        · exact absurd h1 Bool.false_ne_true
      · cases te <;> exact absurd h Bool.false_ne_true
    | _ => exact absurd h Bool.false_ne_true
  | .expr m => by
    intro c X Wx s F E S h
    cases s with
    | Expr e p =>
      have h : (notComp e && trE c m e) = true := h
      simp only [Bool.and_eq_true] at h
      exact s_expr (okE m c X Wx e F S.g S.tk h.2).v h.1
    | _ => exact absurd h Bool.false_ne_true
  | .ret m => by
    intro c X Wx s F E S h
    cases s with
    | Return o p =>
      cases o with
      | none => exact absurd h Bool.false_ne_true
      | some e => exact s_ret (okE m c X Wx e F S.g S.tk h).v
    | _ => exact absurd h Bool.false_ne_true
  | .retN => by
    intro c X Wx s F E S h
    cases s with
    | Return o p =>
      cases o with
      | none => exact s_retN
      | some e => exact absurd h Bool.false_ne_true
    | _ => exact absurd h Bool.false_ne_true
  | .pass => by
    intro c X Wx s F E S h
    cases s with
    | Pass p => exact s_pass
    | _ => exact absurd h Bool.false_ne_true
  | .brk => by
    intro c X Wx s F E S h
    cases s with
    | Break p => exact s_brk
    | _ => exact absurd h Bool.false_ne_true
  | .cont => by
    intro c X Wx s F E S h
    cases s with
    | Continue p => exact s_cont
    | _ => exact absurd h Bool.false_ne_true
  | .ife m a b => by
    intro c X Wx s F E S h
    cases s with
    | If e x y p =>
      have h : (trE c m e && trSs c a x && trSs c b y) = true := h
      simp only [Bool.and_eq_true] at h
      exact s_if (okE m c X Wx e F S.g S.tk h.1.1).t (okSs a c X Wx x F E S h.1.2) (okSs b c X Wx y F E S h.2)
    | _ => exact absurd h Bool.false_ne_true
  | .for t m b => by
    intro c X Wx s F E S h
    cases s with
    | For te e x o p =>
      cases o with
      | nil =>
        have h : (notSet e && trI c m te e && trT c t te && trSs c b x) = true := h
        simp only [Bool.and_eq_true] at h
        exact s_for S (okI m c X Wx te e F S.g S.tk h.1.1.2) (okT t c X Wx te F S.g S.tk h.1.2) (okSs b c X Wx x F E S h.2) h.1.1.1
      | cons _ _ => exact absurd h Bool.false_ne_true
    | _ => exact absurd h Bool.false_ne_true
  | .while m b => by
    intro c X Wx s F E S h
    cases s with
    | While e x o p =>
      cases o with
      | nil =>
        have h : (trE c m e && trSs c b x) = true := h
        simp only [Bool.and_eq_true] at h
        exact s_while S (okE m c X Wx e F S.g S.tk h.1).t (okSs b c X Wx x F E S h.2)
      | cons _ _ => exact absurd h Bool.false_ne_true
    | _ => exact absurd h Bool.false_ne_true
  | .raise cl f m => by
    intro c X Wx s F E S h
    unfold trS at h
    split at h
    · simp only [Bool.and_eq_true, decide_eq_true_eq] at h
      obtain ⟨⟨⟨⟨⟨rfl, h2⟩, h3⟩, h4⟩, h5⟩, h6⟩ := h
      exact s_raise S E h2 h3 h4 (okE m c X Wx _ F S.g S.tk h6).v h5
    · exact absurd h Bool.false_ne_true
  | .try mb [d] => by
    intro c X Wx s F E S h
    unfold trS at h
    split at h
    · rename_i body y np n es p1 p2 p3 pos
      simp only [Bool.and_eq_true, decide_eq_true_eq] at h
      obtain ⟨⟨⟨⟨⟨⟨⟨⟨⟨h1, h2⟩, h3⟩, h4⟩, h5⟩, h6⟩, h7⟩, h8⟩, h9⟩, h10⟩ := h
      obtain ⟨cl, sl, items⟩ := d
      dsimp only at h1 h5 h8
      subst h1
      exact s_try1 S E h5 h6 h7 h2 h3 h4 h8 (Nat.le_trans h9 (by decide)) fun W pn xe tk ps => okSs mb c (X.tr pn xe) W body F E ⟨⟨S.g.prog, S.g.w, S.g.K, S.g.mg, S.g.base, S.g.N, S.g.nd, S.g.nm, S.g.kd, S.g.st, S.g.calm, S.g.room, S.g.gd⟩, tk, ps, S.stk, S.fr, S.sn⟩ h10
    · exact absurd h Bool.false_ne_true
  | .try _ [] => fun c X Wx s F E S h => absurd h Bool.false_ne_true
  | .try _ (_ :: _ :: _) => fun c X Wx s F E S h => absurd h Bool.false_ne_true
theorem okSs : ∀ (m : Mss) (c : Ctx) (X : Cx) (Wx : WX) (ss : List Stmt), Fc G C.cn lvl c.fs → Ec G C lvl c.exs c.cls → Sx G lvl c X Wx → trSs c m ss = true → PSs X ss (tSt G Wx (evSs C m))
  | .nil => by
    intro c X Wx ss F E S h
    cases ss with
    | nil => exact s_nil
    | cons _ _ => exact absurd h Bool.false_ne_true
  | .cons m .nil => by
    intro c X Wx ss F E S h
    rcases ss with _ | ⟨s, _ | ⟨_, _⟩⟩
    · exact absurd h Bool.false_ne_true
    · exact s_one (okS m c X Wx s F E S h)
    · exact absurd h Bool.false_ne_true
  | .cons m (.cons m2 ms) => by
    intro c X Wx ss F E S h
    rcases ss with _ | ⟨s, _ | ⟨s2, ss⟩⟩
    · exact absurd h Bool.false_ne_true
    · exact absurd h Bool.false_ne_true
    · have h : (trS c m s && trSs c (.cons m2 ms) (s2 :: ss)) = true := h
      simp only [Bool.and_eq_true] at h
      exact s_cons (okS m c X Wx s F E S h.1) (okSs (.cons m2 ms) c X Wx (s2 :: ss) F E S h.2)
end
end
end MP
set_option maxRecDepth 100000
set_option maxHeartbeats 4000000
namespace MP
open PySem PySem.Spec PyProof.Rows L2
/-! ### the end of a call: what was made within and is handed out never changes from then on; the rest is forgotten -/
mutual
def dzW (n0 : Nat) (f : Nat → Option W) : W → Option W
  | .tup ws => (dzWs n0 f ws).map .tup
  | .slst ws => (dzWs n0 f ws).map .slst
  | .sdct kvs => (dzKs n0 f kvs).map .sdct
  | .ref n => if n < n0 then some (.ref n) else f n
  | .non => some .non
  | .bl b => some (.bl b)
  | .int i => some (.int i)
  | .str x => some (.str x)
def dzWs (n0 : Nat) (f : Nat → Option W) : List W → Option (List W)
  | [] => some []
  | w :: ws => (dzW n0 f w).bind fun w' => (dzWs n0 f ws).map (w' :: ·)
def dzKs (n0 : Nat) (f : Nat → Option W) : List (Key × W) → Option (List (Key × W))
  | [] => some []
  | (k, w) :: ws => (dzW n0 f w).bind fun w' => (dzKs n0 f ws).map ((k, w') :: ·)
end
def dzFs (n0 : Nat) (f : Nat → Option W) : List (Str × W) → Option (List (Str × W))
  | [] => some []
  | (k, w) :: ws => (dzW n0 f w).bind fun w' => (dzFs n0 f ws).map ((k, w') :: ·)
def dzR (h : List O) (n0 : Nat) : Nat → Nat → Option W
  | 0, _ => none
  | k + 1, n => match h[n]? with
    | some (.lst ws) => (dzWs n0 (dzR h n0 k) ws).map .slst
    | some (.dct kvs) => (dzKs n0 (dzR h n0 k) kvs).map .sdct
    | _ => none
abbrev dzNo : Nat → Option W := fun _ => none
def cleanO (n0 : Nat) : O → Prop
  | .lst ws => dzWs n0 dzNo ws = some ws
  | .dct kvs => dzKs n0 dzNo kvs = some kvs
  | .ins _ fs => dzFs n0 dzNo fs = some fs
def gcOk (h0 h' : List O) : Prop := h0.length ≤ h'.length ∧ ∀ (i : Nat) (o : O), i < h0.length → h'[i]? = some o → h0[i]? = some o ∨ cleanO h0.length o
abbrev gcDeep : Nat := 8
open Classical in
noncomputable def gcR (h0 : List O) (r : R W) : R W := match r with
  | .ok w h' => if gcOk h0 h' then (match dzW h0.length (dzR h' h0.length gcDeep) w with
    | some w' => .ok w' (h'.take h0.length)
    | none => .stuck) else .stuck
  | .exc x h' => if gcOk h0 h' then (match dzFs h0.length (dzR h' h0.length gcDeep) x.fs with
    | some fs => .exc ⟨x.cls, fs⟩ (h'.take h0.length)
    | none => .stuck) else .stuck
  | .stuck => .stuck
def LD (u : HO) : Prop := (∃ xs, u = .lst xs) ∨ ∃ m, u = .dK m
theorem LD.mu {u : HO} (h : LD u) : Mut (some u) := by
  rcases h with ⟨xs, rfl⟩ | ⟨m, rfl⟩ <;> trivial
theorem LD.nf {u : HO} (h : LD u) : ¬ Fixed u := by
  rcases h with ⟨xs, rfl⟩ | ⟨m, rfl⟩ <;> exact fun z => z
/-- some things of the heap are locked -/
def LkL : List Addr → (Hp → Prop) → Hp → Prop
  | [], P, H => P H
  | a :: as, P, H => ∃ u, H a = some u ∧ LD u ∧ ∀ od, LkL as P (upd H a (.frz od u))
def LkM (P : Hp → Prop) (H : Hp) : Prop := ∃ as, LkL as P H
def Frz (as : List Addr) (H H2 : Hp) : Prop := (∀ b, b ∉ as → H2 b = H b) ∧ ∀ a ∈ as, ∃ u od, H a = some u ∧ LD u ∧ H2 a = some (.frz od u)
theorem lkL_intro {P : Hp → Prop} : ∀ {as : List Addr} {H : Hp}, as.Nodup → (∀ a ∈ as, ∃ u, H a = some u ∧ LD u) → (∀ H2, Frz as H H2 → P H2) → LkL as P H
  | [], H, _, _, f => f H ⟨fun _ _ => rfl, fun _ h => nomatch h⟩
  | a :: as, H, nd, h, f => by
    obtain ⟨u, e, l⟩ := h a List.mem_cons_self
    have na : a ∉ as := (List.nodup_cons.mp nd).1
    have ne : ∀ b ∈ as, b ≠ a := fun b hb z => na (by rw [← z]; exact hb)
    refine ⟨u, e, l, fun od => lkL_intro (List.nodup_cons.mp nd).2 (fun b hb => ?_) fun H2 z => f H2 ⟨fun b hb => ?_, fun b hb => ?_⟩⟩
    · rw [upd_ne (ne b hb)]; exact h b (List.mem_cons_of_mem _ hb)
    · rw [z.1 b fun w => hb (List.mem_cons_of_mem _ w), upd_ne fun w => hb (by rw [w]; exact List.mem_cons_self)]
    · rcases List.mem_cons.mp hb with rfl | hb
      · exact ⟨u, od, e, l, by rw [z.1 _ na, upd_same]⟩
      · obtain ⟨u2, od2, e2, l2, e3⟩ := z.2 b hb
        rw [upd_ne (ne b hb)] at e2
        exact ⟨u2, od2, e2, l2, e3⟩
section
variable {X : Cx} {pins : List (Addr × Obj)} {σ : L2.St} {s : Shared}
theorem lkL_elim {P : Hp → Prop} : ∀ {as : List Addr} {H : Hp}, Inv X pins σ H s → LkL as P H → ∃ H2, Inv X pins σ H2 s ∧ (∀ a, H a = none → H2 a = none) ∧ P H2
  | [], H, I, h => ⟨H, I, fun _ z => z, h⟩
  | a :: as, H, I, ⟨u, e, l, f⟩ => by
    obtain ⟨od, I2⟩ := I.lock e l.mu
    obtain ⟨H2, I3, n, p⟩ := lkL_elim I2 (f od)
    exact ⟨H2, I3, fun b z => n b (by rw [upd_ne fun w => by rw [w, e] at z; cases z]; exact z), p⟩
theorem PSs.lockM {b : List Stmt} {t : TS} (h : PSs X b t) {Q : VK} {N : L2.St → Hp → Prop} : ∀ σ H, t { nx := fun σ H => LkM (N σ) H, rt := fun v H => LkM (Q v) H } σ H → ∀ pins s, Inv X pins σ H s → wpAny (model X.prog X.w) X.A (execs b X.env) (SP X pins { nx := N, rt := Q }) X.xe s := fun σ H q pins s I => by
  refine thn (h.run pins s σ H _ I q) fun f s' z => ?_
  cases f with
  | next =>
    obtain ⟨σ', H', J, ⟨as, q⟩⟩ := z
    obtain ⟨H2, J2, _, q2⟩ := lkL_elim J q
    exact ⟨σ', H2, J2, q2⟩
  | ret u =>
    obtain ⟨v, σ', H', J, r', ⟨as, q⟩⟩ := z
    obtain ⟨H2, J2, _, q2⟩ := lkL_elim J q
    exact ⟨v, σ', H2, J2, r', q2⟩
  | brk => exact False.elim z.choose_spec.choose_spec.2
  | cont => exact False.elim z.choose_spec.choose_spec.2
theorem takes_lk {E : XK} (tk : Takes X (fun cls d _ H => E cls d H)) : Takes X (fun cls d _ H => LkM (fun H => E cls d H) H) := fun u s' ⟨a, B, sI, pins, σ, H, cls, d, e, I, nb, up, sky, na, os, ag, ⟨as, w⟩⟩ => by
  obtain ⟨H2, I2, n, q⟩ := lkL_elim I w
  exact tk u s' ⟨a, B, sI, pins, σ, H2, cls, d, e, I2, nb, up, sky, n a na, os, ag, q⟩
end
section
variable {G : Pg} {ι ι' : List Addr} {H H' H2 : Hp} {h0 h' : List O}
mutual
theorem dz_old {f : Nat → Option W} {n0 : Nat} (hn : ι.length ≤ n0) : ∀ {w : W} {v : V}, VR G H ι w v → dzW n0 f w = some w
  | _, _, .non => rfl
  | _, _, .bl b => rfl
  | _, _, .int i => rfl
  | _, _, .str x => rfl
  | _, _, .tup h r => by rw [dzW, dzs_old hn r]; rfl
  | _, _, .slst h r => by rw [dzW, dzs_old hn r]; rfl
  | _, _, .sdct h r => by rw [dzW, dzk_old hn r]; rfl
  | _, _, .ref e => by rw [dzW, if_pos (Nat.lt_of_lt_of_le (List.getElem?_eq_some_iff.mp e).1 hn)]
theorem dzs_old {f : Nat → Option W} {n0 : Nat} (hn : ι.length ≤ n0) : ∀ {ws : List W} {vs : List V}, VRs G H ι ws vs → dzWs n0 f ws = some ws
  | _, _, .nil => rfl
  | _, _, .cons r t => by rw [dzWs, dz_old hn r, dzs_old hn t]; rfl
theorem dzk_old {f : Nat → Option W} {n0 : Nat} (hn : ι.length ≤ n0) : ∀ {ws : List (Key × W)} {vs : List (Key × V)}, VKs G H ι ws vs → dzKs n0 f ws = some ws
  | _, _, .nil => rfl
  | _, _, .cons r t => by rw [dzKs, dz_old hn r, dzk_old hn t]; rfl
end
theorem dzf_old {f : Nat → Option W} {n0 : Nat} (hn : ι.length ≤ n0) : ∀ {ws : List (Str × W)} {vs : List (Str × V)}, FR G H ι ws vs → dzFs n0 f ws = some ws
  | _, _, .nil => rfl
  | _, _, .cons r t => by rw [dzFs, dz_old hn r, dzf_old hn t]; rfl
/-- the way back to the small heap as it was -/
structure Bk (G : Pg) (ι ι' : List Addr) (H' H2 : Hp) (n0 : Nat) : Prop where
  low : ∀ n a, n < n0 → ι'[n]? = some a → ι[n]? = some a
  fix : ∀ a u, H' a = some u → Fixed u → H2 a = some u
theorem Bk.sqT {n0 : Nat} (b : Bk G ι ι' H' H2 n0) {a : Addr} {xs : List V} (h : SqT G.K H' a xs) : SqT G.K H2 a xs := by
  rcases h with (h | ⟨o, h⟩) | h
  · exact .inl (.inl (b.fix a _ h trivial))
  · exact .inl (.inr ⟨o, b.fix a _ h trivial⟩)
  · exact .inr h
theorem Bk.stL {n0 : Nat} (b : Bk G ι ι' H' H2 n0) {a : Addr} {xs : List V} (h : StL G.K H' a xs) : StL G.K H2 a xs := by
  rcases h with ⟨o, h⟩ | h
  · exact .inl ⟨o, b.fix a _ h trivial⟩
  · exact .inr h
mutual
theorem dz_ok {f : Nat → Option W} {n0 : Nat} (b : Bk G ι ι' H' H2 n0) (hf : ∀ n w' v, n0 ≤ n → f n = some w' → VR G H' ι' (.ref n) v → VR G H2 ι w' v) : ∀ {w w' : W} {v : V}, VR G H' ι' w v → dzW n0 f w = some w' → VR G H2 ι w' v
  | _, _, _, .non, e => by cases e; exact .non
  | _, _, _, .bl _, e => by cases e; exact .bl _
  | _, _, _, .int _, e => by cases e; exact .int _
  | _, _, _, .str _, e => by cases e; exact .str _
  | _, _, _, .tup h r, e => by
    rw [dzW, Option.map_eq_some_iff] at e
    obtain ⟨ws, e1, rfl⟩ := e
    exact .tup (b.sqT h) (dzs_ok b hf r e1)
  | _, _, _, .slst h r, e => by
    rw [dzW, Option.map_eq_some_iff] at e
    obtain ⟨ws, e1, rfl⟩ := e
    exact .slst (b.stL h) (dzs_ok b hf r e1)
  | _, _, _, .sdct h r, e => by
    rw [dzW, Option.map_eq_some_iff] at e
    obtain ⟨ws, e1, rfl⟩ := e
    exact .sdct (b.fix _ _ h trivial) (dzk_ok b hf r e1)
  | .ref n, _, _, .ref ea, e => by
    rw [dzW] at e
    split at e
    · cases e
      exact .ref (b.low _ _ (by assumption) ea)
    · exact hf n _ _ (by omega) e (.ref ea)
theorem dzs_ok {f : Nat → Option W} {n0 : Nat} (b : Bk G ι ι' H' H2 n0) (hf : ∀ n w' v, n0 ≤ n → f n = some w' → VR G H' ι' (.ref n) v → VR G H2 ι w' v) : ∀ {ws ws' : List W} {vs : List V}, VRs G H' ι' ws vs → dzWs n0 f ws = some ws' → VRs G H2 ι ws' vs
  | _, _, _, .nil, e => by cases e; exact .nil
  | _, _, _, .cons r t, e => by
    rw [dzWs, Option.bind_eq_some_iff] at e
    obtain ⟨w', e1, e⟩ := e
    rw [Option.map_eq_some_iff] at e
    obtain ⟨ws', e2, rfl⟩ := e
    exact .cons (dz_ok b hf r e1) (dzs_ok b hf t e2)
theorem dzk_ok {f : Nat → Option W} {n0 : Nat} (b : Bk G ι ι' H' H2 n0) (hf : ∀ n w' v, n0 ≤ n → f n = some w' → VR G H' ι' (.ref n) v → VR G H2 ι w' v) : ∀ {ws ws' : List (Key × W)} {vs : List (Key × V)}, VKs G H' ι' ws vs → dzKs n0 f ws = some ws' → VKs G H2 ι ws' vs
  | _, _, _, .nil, e => by cases e; exact .nil
  | _, _, _, .cons r t, e => by
    rw [dzKs, Option.bind_eq_some_iff] at e
    obtain ⟨w', e1, e⟩ := e
    rw [Option.map_eq_some_iff] at e
    obtain ⟨ws', e2, rfl⟩ := e
    exact .cons (dz_ok b hf r e1) (dzk_ok b hf t e2)
end
theorem dzf_ok {f : Nat → Option W} {n0 : Nat} (b : Bk G ι ι' H' H2 n0) (hf : ∀ n w' v, n0 ≤ n → f n = some w' → VR G H' ι' (.ref n) v → VR G H2 ι w' v) : ∀ {ws ws' : List (Str × W)} {vs : List (Str × V)}, FR G H' ι' ws vs → dzFs n0 f ws = some ws' → FR G H2 ι ws' vs
  | _, _, _, .nil, e => by cases e; exact .nil
  | _, _, _, .cons r t, e => by
    rw [dzFs, Option.bind_eq_some_iff] at e
    obtain ⟨w', e1, e⟩ := e
    rw [Option.map_eq_some_iff] at e
    obtain ⟨ws', e2, rfl⟩ := e
    exact .cons (dz_ok b hf r e1) (dzf_ok b hf t e2)
def isLDo : O → Bool
  | .lst _ => true
  | .dct _ => true
  | .ins _ _ => false
/-- what is locked at the end -/
def gcL (n0 : Nat) (h' : List O) (ι' : List Addr) : List Addr := (List.range h'.length).filterMap fun i => match h'[i]?, ι'[i]? with
  | some o, some a => if n0 ≤ i ∧ isLDo o = true then some a else none
  | _, _ => none
theorem gcL_mem {n0 : Nat} {a : Addr} : a ∈ gcL n0 h' ι' ↔ ∃ i o, n0 ≤ i ∧ h'[i]? = some o ∧ ι'[i]? = some a ∧ isLDo o = true := by
  unfold gcL
  rw [List.mem_filterMap]
  constructor
  · rintro ⟨i, hi, e⟩
    split at e
    · rename_i o b e1 e2
      split at e
      · rename_i z
        cases e
        exact ⟨i, o, z.1, e1, e2, z.2⟩
      · cases e
    · cases e
  · rintro ⟨i, o, h1, h2, h3, h4⟩
    refine ⟨i, List.mem_range.mpr (List.getElem?_eq_some_iff.mp h2).1, ?_⟩
    rw [h2, h3]
    dsimp only
    rw [if_pos ⟨h1, h4⟩]
theorem nodup_filterMap {α β : Type} {f : α → Option β} : ∀ {l : List α}, l.Nodup → (∀ x y b, x ∈ l → y ∈ l → f x = some b → f y = some b → x = y) → (l.filterMap f).Nodup
  | [], _, _ => List.nodup_nil
  | x :: l, nd, h => by
    rw [List.nodup_cons] at nd
    have ih := nodup_filterMap nd.2 fun a b c ha hb => h a b c (List.mem_cons_of_mem _ ha) (List.mem_cons_of_mem _ hb)
    rw [List.filterMap_cons]
    cases e : f x with
    | none => exact ih
    | some b =>
      refine List.nodup_cons.mpr ⟨fun hm => ?_, ih⟩
      obtain ⟨y, hy, ey⟩ := List.mem_filterMap.mp hm
      have := h x y b List.mem_cons_self (List.mem_cons_of_mem _ hy) e ey
      exact nd.1 (by rw [this]; exact hy)
theorem gcL_nd {n0 : Nat} (r : Rel G h' ι' H') : (gcL n0 h' ι').Nodup := by
  refine nodup_filterMap List.nodup_range fun i j b hi hj e1 e2 => ?_
  have q : ∀ {i : Nat}, (match h'[i]?, ι'[i]? with
    | some o, some a => if n0 ≤ i ∧ isLDo o = true then some a else none
    | _, _ => none) = some b → ι'[i]? = some b := fun {i} e => by
    split at e
    · split at e
      · cases e; assumption
      · cases e
    · cases e
  exact r.inj i j b (q e1) (q e2)
theorem OR.ld {a : Addr} {o : O} (q : OR G H ι a o) (e : isLDo o = true) : ∃ u, H a = some u ∧ LD u := by
  cases o with
  | lst ws => obtain ⟨vs, e, _⟩ := q; exact ⟨_, e, .inl ⟨_, rfl⟩⟩
  | dct kvs => obtain ⟨vs, e, _⟩ := q; exact ⟨_, e, .inr ⟨_, rfl⟩⟩
  | ins c fs => cases e
/-- behind a call -/
theorem gc_back (rel : Rel G h0 ι H) (s : Step ι H ι' H') (r : Rel G h' ι' H') (ok : gcOk h0 h') (z : Frz (gcL h0.length h' ι') H' H2) :
    Step ι H ι H2 ∧ Rel G (h'.take h0.length) ι H2 ∧ Bk G ι ι' H' H2 h0.length ∧ ∀ k n w' v, h0.length ≤ n → dzR h' h0.length k n = some w' → VR G H' ι' (.ref n) v → VR G H2 ι w' v := by
  obtain ⟨t, et, ht⟩ := s.ext
  have hl := rel.len
  have low : ∀ n a, n < h0.length → ι'[n]? = some a → ι[n]? = some a := fun n a hn e => by
    rw [et, List.getElem?_append_left (by omega)] at e
    exact e
  have inT : ∀ a, a ∈ gcL h0.length h' ι' → a ∈ t := fun a ha => by
    obtain ⟨i, o, h1, h2, h3, _⟩ := gcL_mem.mp ha
    rw [et, List.getElem?_append_right (by omega)] at h3
    exact List.mem_of_getElem? h3
  have nF : ∀ a u, H' a = some u → Fixed u → a ∉ gcL h0.length h' ι' := fun a u e f ha => by
    obtain ⟨u2, od, e2, l, _⟩ := z.2 a ha
    rw [e] at e2
    cases e2
    exact l.nf f
  have nI : ∀ n a, n < h0.length → ι'[n]? = some a → a ∉ gcL h0.length h' ι' := fun n a hn e ha => by
    obtain ⟨i, o, h1, h2, h3, _⟩ := gcL_mem.mp ha
    have := r.inj n i a e h3
    omega
  have bk : Bk G ι ι' H' H2 h0.length := ⟨low, fun a u e f => by rw [z.1 a (nF a u e f)]; exact e⟩
  have st : Step ι H ι H2 := by
    refine ⟨⟨[], by simp, fun _ h => nomatch h⟩, fun a o e na => ?_, fun a e => ?_, fun a u e f => bk.fix a u (s.fix a u e f) f⟩
    · rw [z.1 a fun ha => by rw [ht a (inT a ha)] at e; cases e]
      exact s.keep a o e na
    · by_cases ha : a ∈ gcL h0.length h' ι'
      · obtain ⟨_, _, _, _, e2⟩ := z.2 a ha
        rw [e2]; exact fun w => nomatch w
      · rw [z.1 a ha]; exact s.there a e
  refine ⟨st, ⟨by rw [List.length_take, hl]; have := ok.1; omega, fun n o a e ea => ?_, rel.inj, rel.pre, rel.sm.fix st.fix⟩, bk, ?_⟩
  · have hn : n < h0.length := by
      rw [← hl]; exact (List.getElem?_eq_some_iff.mp ea).1
    rw [List.getElem?_take_of_lt hn] at e
    have ea' : ι'[n]? = some a := by rw [et, List.getElem?_append_left (by omega)]; exact ea
    have q := r.obj n o a e ea'
    have eH : H2 a = H' a := z.1 a (nI n a hn ea')
    have no : ∀ n w' v, h0.length ≤ n → dzNo n = some w' → VR G H' ι' (.ref n) v → VR G H2 ι w' v := fun _ _ _ _ e _ => nomatch e
    rcases ok.2 n o hn e with e0 | cl
    · have q0 := rel.obj n o a e0 ea
      cases o with
      | lst ws =>
        obtain ⟨vs0, _, r0⟩ := q0
        obtain ⟨vs, h1, h2⟩ := q
        exact ⟨vs, eH.trans h1, dzs_ok bk no h2 (dzs_old (Nat.le_of_eq hl) r0)⟩
      | dct kvs =>
        obtain ⟨vs0, _, r0⟩ := q0
        obtain ⟨vs, h1, h2⟩ := q
        exact ⟨vs, eH.trans h1, (dzk_ok bk no h2.vk (dzk_old (Nat.le_of_eq hl) r0.vk)).fr⟩
      | ins c fs =>
        obtain ⟨_, _, vs0, _, _, r0⟩ := q0
        obtain ⟨C, dx, vs, h0, h1, h2⟩ := q
        exact ⟨C, dx, vs, h0, eH.trans h1, dzf_ok bk no h2 (dzf_old (Nat.le_of_eq hl) r0)⟩
    · cases o with
      | lst ws =>
        obtain ⟨vs, h1, h2⟩ := q
        exact ⟨vs, eH.trans h1, dzs_ok bk no h2 cl⟩
      | dct kvs =>
        obtain ⟨vs, h1, h2⟩ := q
        exact ⟨vs, eH.trans h1, (dzk_ok bk no h2.vk cl).fr⟩
      | ins c fs =>
        obtain ⟨C, dx, vs, h0, h1, h2⟩ := q
        exact ⟨C, dx, vs, h0, eH.trans h1, dzf_ok bk no h2 cl⟩
  · intro k
    induction k with
    | zero => exact fun n w' v _ e _ => nomatch e
    | succ k ih =>
      intro n w' v hn e hv
      cases hv with
      | ref ea =>
        unfold dzR at e
        split at e
        · rename_i ws eo
          rw [Option.map_eq_some_iff] at e
          obtain ⟨ws', e1, rfl⟩ := e
          obtain ⟨vs, h1, h2⟩ := r.obj n _ _ eo ea
          obtain ⟨u, od, e2, _, e3⟩ := z.2 _ (gcL_mem.mpr ⟨n, _, hn, eo, ea, rfl⟩)
          rw [h1] at e2
          cases e2
          exact .slst (.inl ⟨od, e3⟩) (dzs_ok bk ih h2 e1)
        · rename_i ws eo
          rw [Option.map_eq_some_iff] at e
          obtain ⟨ws', e1, rfl⟩ := e
          obtain ⟨vs, h1, h2⟩ := r.obj n _ _ eo ea
          obtain ⟨u, od, e2, _, e3⟩ := z.2 _ (gcL_mem.mpr ⟨n, _, hn, eo, ea, rfl⟩)
          rw [h1] at e2
          cases e2
          exact .sdct e3 (dzk_ok bk ih h2.vk e1)
        · cases e
end
noncomputable def gcF (b : Bool) (h0 : List O) (r : R W) : R W := match b with
  | true => gcR h0 r
  | false => r
def endF (r : RS) : R W := match r with
  | .ok (.rt w) _ h => .ok w h
  | .ok .nx _ h => .ok .non h
  | .exc x _ h => .exc x h
  | _ => .stuck
@[simp] theorem endF_rt (w : W) (ℓ : Lo) (h : List O) : endF (.ok (.rt w) ℓ h) = .ok w h := rfl
@[simp] theorem endF_nx (ℓ : Lo) (h : List O) : endF (.ok .nx ℓ h) = .ok .non h := rfl
@[simp] theorem endF_exc (x : Exn) (ℓ : Lo) (h : List O) : endF (.exc x ℓ h) = .exc x h := rfl
theorem gc_ok {G : Pg} {ι : List Addr} {H : Hp} {h0 : List O} {r : RS} {Q : VK} {E : XK} (rel : Rel G h0 ι H) (p : Post G (fun cls d _ H => E cls d H) [] ι H (gcR h0 (endF r)) (Wants Q G)) :
    PostS G (fun cls d _ H => LkM (fun H => E cls d H) H) ι H r (DK G { nx := fun _ H' => LkM (Q .non) H', rt := fun v H' => LkM (Q v) H' }) := by
  have val : ∀ {w : W} {h' : List O}, Post G (fun cls d _ H => E cls d H) [] ι H (gcR h0 (.ok w h')) (Wants Q G) → ∀ ι' H', Step ι H ι' H' → Rel G h' ι' H' → ∀ v, VR G H' ι' w v → LkM (Q v) H' := by
    intro w h' p ι' H' s q v hv
    unfold gcR at p
    dsimp only at p
    split at p
    · rename_i ok
      split at p
      · rename_i w' ew
        refine ⟨gcL h0.length h' ι', lkL_intro (gcL_nd q) (fun a ha => ?_) fun H2 z => ?_⟩
        · obtain ⟨i, o, _, h2, h3, h4⟩ := gcL_mem.mp ha
          exact (q.obj i o a h2 h3).ld h4
        · obtain ⟨s2, r2, bk, hf⟩ := gc_back rel s q ok z
          exact p ι H2 s2 r2 v (dz_ok bk (hf _) hv ew)
      · exact False.elim p
    · exact False.elim p
  cases r with
  | stuck => exact p
  | exc x ℓ h' =>
    intro ι' H' σ' cls d s q l xr
    unfold endF gcR at p
    dsimp only at p
    split at p
    · rename_i ok
      split at p
      · rename_i fs ew
        refine ⟨gcL h0.length h' ι', lkL_intro (gcL_nd q) (fun a ha => ?_) fun H2 z => ?_⟩
        · obtain ⟨i, o, _, h2, h3, h4⟩ := gcL_mem.mp ha
          exact (q.obj i o a h2 h3).ld h4
        · obtain ⟨s2, r2, bk, hf⟩ := gc_back rel s q ok z
          refine p ι H2 cls d s2 r2 ?_
          obtain ⟨C, c1, c2, c3⟩ := xr
          refine ⟨C, c1, c2, ?_⟩
          rcases c3 with ⟨e1, e2⟩ | ⟨dd, vs, e1, e2, e3, e4⟩
          · rw [e1] at ew
            cases ew
            exact .inl ⟨rfl, e2⟩
          · have nd : dd ∉ gcL h0.length h' ι' := fun hm => by
              obtain ⟨u, od, e5, l, _⟩ := z.2 _ hm
              rw [e2] at e5
              cases e5
              rcases l with ⟨_, l⟩ | ⟨_, l⟩ <;> cases l
            refine .inr ⟨dd, vs, e1, by rw [z.1 _ nd]; exact e2, dzf_ok bk (hf _) e3 ew, fun hm => e4 ?_⟩
            obtain ⟨t, et, _⟩ := s.ext
            rw [et]
            exact List.mem_append_left _ hm
      · exact False.elim p
    · exact False.elim p
  | ok f ℓ h' =>
    cases f with
    | nx => exact fun ι' H' σ' s q l => val p ι' H' s q .non .non
    | rt w => exact fun ι' H' σ' s q l v hv => val p ι' H' s q v hv
    | bk => exact False.elim p
    | ct => exact False.elim p
end MP
set_option maxRecDepth 100000
set_option maxHeartbeats 4000000
namespace MP
open PySem PySem.Spec PyProof.Rows L2

/-! ### defs -/
structure FD where
  ps : List Str
  N : List Str
  body : Mss
  gc : Bool := false
def startL (n : Nat) (ws : List W) : Lo := ws.map some ++ List.replicate (n - ws.length) none
noncomputable def runF (C : Cc) (d : FD) (ws : List W) (h : List O) : R W := if ws.length = d.ps.length then gcF d.gc h (endF (evSs C d.body (startL d.N.length ws) h)) else .stuck
noncomputable def mkC (D : List (Str × FD)) (gl : Str → Option W) (isA : Str → Str → Option Bool) (exs : List (Str × Str)) (fuel : Nat) : Nat → Cc
  | 0 => ⟨⟨fun _ _ _ => .stuck, gl, fuel⟩, isA, exs⟩
  | k + 1 => ⟨⟨fun f ws h => match D.lookup f with
    | some d => runF (mkC D gl isA exs fuel k) d ws h
    | none => .stuck, gl, fuel⟩, isA, exs⟩
/-- the text's own defs, exceptions with their fields, classes -/
structure Tx where
  fs : List Str
  exs : List (Str × Str) := []
  cls : List Str := []
def chkD (t : Tx) (st : Stmt) (d : FD) : Bool := C8.scC d.N d.ps (defScope st) && trSs ⟨d.N, (defScope st).names, (defScope st).names, t.fs, t.exs, t.cls⟩ d.body (defBody st)
structure DefOk (G : Pg) (t : Tx) (f : Str) (d : FD) : Prop where
  ex : ∃ st fa fd, Fun G.K f f st fa fd ∧ G.mg f = some (.ref fa) ∧ Binds G.K fd d.ps [] ∧ chkD t st d = true
section
variable {G : Pg}
theorem lr_start {H : Hp} {ι : List Addr} {N : List Str} {ws : List W} {vs : List V} (hv : VRs G H ι ws vs) : LR G H ι (startL N.length ws) (L2.start N vs) := by
  have hl := hv.length
  refine ⟨by unfold startL L2.start; simp [hl], fun i w e => ?_⟩
  unfold getL startL at e
  by_cases hi : i < ws.length
  · rw [List.getElem?_append_left (by simpa using hi), List.getElem?_map, List.getElem?_eq_getElem hi] at e
    dsimp only [Option.map_some] at e
    cases e
    obtain ⟨v, h1, h2⟩ := hv.get (i := i) (w := ws[i]) (by simp [hi])
    refine ⟨v, ?_, h2⟩
    unfold L2.start
    rw [List.getElem?_append_left (by rw [List.length_map]; omega), List.getElem?_map, h1]
    rfl
  · rw [List.getElem?_append_right (by simpa using hi), List.getElem?_replicate] at e
    split at e
    · rename_i z
      split at z <;> cases z
    · cases e
theorem end_ok {C : Cc} {ι : List Addr} {H : Hp} {r : RS} {Q : VK} {E : XK} (p : Post G (fun cls d _ H => E cls d H) [] ι H (endF r) (Wants Q G)) : PostS G (fun cls d _ H => E cls d H) ι H r (DK G { nx := fun _ H' => Q .non H', rt := Q }) := by
  cases r with
  | stuck => exact p
  | exc x ℓ h => exact fun ι' H' σ' cls d s q l x => p ι' H' cls d s q x
  | ok f ℓ h =>
    cases f with
    | nx => exact fun ι' H' σ' s q l => p ι' H' s q _ .non
    | rt w => exact fun ι' H' σ' s q l => p ι' H' s q
    | bk => exact False.elim p
    | ct => exact False.elim p
/-- a def keeps its promise: what its tree says -/
theorem def_ok {C : Cc} {k : Nat} {t : Tx} {f : Str} {d : FD} {st : Stmt} {fa : Addr} {fd : FuncData} (Fn : Fun G.K f f st fa fd) (hc : chkD t st d = true) (F : Fc G C.cn k t.fs) (E : Ec G C k t.exs t.cls) : FnG G (k + 1) fa fd d.ps (spI G (runF C d) d.ps.length) := by
  unfold chkD at hc
  rw [Bool.and_eq_true] at hc
  obtain ⟨hS, hT⟩ := hc
  have S := C8.fnScope_by hS
  obtain ⟨oc, od, kV, doc, pm, an, cdv, ct, osl, rfl, lk, hcd⟩ := Fn.ex
  refine ⟨fun vs H Q E q => q.1, fun A outer s H args us vs Q Ex room gd e0 hb rv ⟨hlen, ι, h, ws, rel, hv, post⟩ => ?_⟩
  have inK : G.K.In s.heap := e0.mod.kin.keeps fun b o e => (e0.bs b o e).1
  have noLim : s.heap.NoLimit := e0.mod.nolimit.keeps fun b o e => (e0.bs b o e).1
  have kinds : ∀ y ∈ d.ps.zip us, (defScope st).names.lookup y.1 = some .local ∨ ((defScope st).names.lookup y.1 = some .cell ∧ ((cellsFrom (s.heap.objs.size + 1) (defScope st).names []).lookup y.1).isSome = true) := by
    rintro ⟨n, v⟩ hy
    exact (S.par n (List.of_mem_zip hy).1).imp id fun q => ⟨q, PySem.W.cellsFrom_some _ _ _ (.inl q)⟩
  refine codeAny_call_function room.depth (inK _ _ lk) rfl S.co S.gen rfl (PySem.W.codeRec_of inK hcd) (hb _ _ _ _ ?_)
  refine wpAny_newFunctionEnv_cells S.kind kinds fun env he s1 x => ?_
  subst he
  refine ⟨noLim.keeps x.toInCall.keep, codeAny_func ?_⟩
  have inv := inv_start (CX := L2.CX G.P G.w) (E := Ex) S room.hd e0 hlen rv x
  have gx : Gx G k ⟨d.N, (defScope st).names, (defScope st).names, t.fs, t.exs, t.cls⟩ (cxOf (L2.CX G.P G.w) G.P G.w G.K G.mg G.base d.N f (defScope st) fa cdv A outer s H Ex) :=
    ⟨rfl, rfl, rfl, rfl, rfl, rfl, S.nd, rfl, S.kind, fun x hx => ⟨hx, .inl rfl⟩, rfl, room.deeper _, gd⟩
  have tk0 : Takes (cxOf (L2.CX G.P G.w) G.P G.w G.K G.mg G.base d.N f (defScope st) fa cdv A outer s H Ex) (fun cls d _ H => Ex cls d H) := takes_of rfl rfl rfl rfl
  have hwl : ws.length = d.ps.length := hv.length.trans hlen
  unfold runF at post
  rw [if_pos hwl] at post
  have run : wpAny (model G.P G.w) (A.deeper (envOfC f (defScope st) s.heap.objs.size fa cdv)) (execs (defBody st) (cxOf (L2.CX G.P G.w) G.P G.w G.K G.mg G.base d.N f (defScope st) fa cdv A outer s H Ex).env)
      (SP (cxOf (L2.CX G.P G.w) G.P G.w G.K G.mg G.base d.N f (defScope st) fa cdv A outer s H Ex) [] { nx := fun _ H' => Q .non H', rt := Q }) (cxOf (L2.CX G.P G.w) G.P G.w G.K G.mg G.base d.N f (defScope st) fa cdv A outer s H Ex).xe s1 := by
    cases hgc : d.gc with
    | false =>
      rw [hgc] at post
      have sx : Sx G k ⟨d.N, (defScope st).names, (defScope st).names, t.fs, t.exs, t.cls⟩ (cxOf (L2.CX G.P G.w) G.P G.w G.K G.mg G.base d.N f (defScope st) fa cdv A outer s H Ex) (fun cls d _ H => Ex cls d H) :=
        ⟨gx, tk0, passes_of rfl, rfl, rfl, rfl⟩
      have body := okSs (C := C) d.body _ _ _ _ F E sx hT
      exact body.run [] s1 (L2.start d.N vs) H { nx := fun _ H' => Q .non H', rt := Q } inv ⟨ι, h, _, rel, lr_start hv, end_ok (C := C) post⟩
    | true =>
      rw [hgc] at post
      have sx : Sx G k ⟨d.N, (defScope st).names, (defScope st).names, t.fs, t.exs, t.cls⟩ (cxOf (L2.CX G.P G.w) G.P G.w G.K G.mg G.base d.N f (defScope st) fa cdv A outer s H Ex) (fun cls d _ H => LkM (fun H => Ex cls d H) H) :=
        ⟨gx, takes_lk tk0, passes_of rfl, rfl, rfl, rfl⟩
      have body := okSs (C := C) d.body _ _ _ _ F E sx hT
      exact MP.PSs.lockM body (Q := Q) (N := fun _ H' => Q .non H') (L2.start d.N vs) H ⟨ι, h, _, rel, lr_start hv, gc_ok rel post⟩ [] s1 inv
  refine wpAny_mono run (fun fl s' hs => ?_) fun e s' hs => hs
  cases fl with
  | ret u =>
    obtain ⟨v, σ', H', J, r', q⟩ := hs
    exact ⟨v, H', J.os, J.bare, J.base, J.hok, r', q⟩
  | next =>
    obtain ⟨σ', H', J, q⟩ := hs
    exact ⟨.non, H', J.os, J.bare, J.base, J.hok, rfl, q⟩
  | brk => exact False.elim hs.choose_spec.choose_spec.2
  | cont => exact False.elim hs.choose_spec.choose_spec.2
theorem mem_of_lookup {D : List (Str × FD)} {f : Str} {d : FD} : D.lookup f = some d → (f, d) ∈ D := by
  induction D with
  | nil => intro h; simp at h
  | cons p D ih =>
    obtain ⟨g, d'⟩ := p
    intro h
    rw [List.lookup_cons] at h
    cases hb : f == g with
    | true =>
      rw [hb] at h
      cases h
      have := beq_iff_eq.mp hb
      subst this
      exact List.mem_cons_self
    | false =>
      rw [hb] at h
      exact List.mem_cons_of_mem _ (ih h)
theorem lookup_of {D : List (Str × FD)} {f : Str} (h : f ∈ D.map (·.1)) : ∃ d, D.lookup f = some d := by
  induction D with
  | nil => simp at h
  | cons p D ih =>
    obtain ⟨g, d'⟩ := p
    rw [List.lookup_cons]
    cases hb : f == g with
    | true => exact ⟨d', rfl⟩
    | false =>
      rw [List.map_cons] at h
      rcases List.mem_cons.mp h with h | h
      · rw [h] at hb; simp at hb
      · exact ih h
theorem fc_all {D : List (Str × FD)} {gl : Str → Option W} {isA : Str → Str → Option Bool} {exs : List (Str × Str)} {cls : List Str} {fuel : Nat} (hb : ∀ x ∈ bltNames, G.mg x = none) (hg : ∀ x w, gl x = some w → ∃ u v, G.mg x = some u ∧ RelV v u ∧ ∀ ι H, (∃ r, ι = G.i0 ++ r) → VR G H ι w v)
    (hE : ∀ k, Ec G (mkC D gl isA exs fuel k) (k + 3) exs cls) (hD : ∀ p ∈ D, DefOk G ⟨D.map (·.1), exs, cls⟩ p.1 p.2) : ∀ k, Fc G (mkC D gl isA exs fuel k).cn (k + 3) (D.map (·.1))
  | 0 => by
    refine ⟨hb, hg, fun f hf => ?_⟩
    obtain ⟨d, hd⟩ := lookup_of hf
    obtain ⟨st, fa, fd, h1, h2, h3, h4⟩ := (hD _ (mem_of_lookup hd)).ex
    exact ⟨fa, fd, d.ps, h2, h1.kp, h3, ⟨fun vs H Q E q => q.1, fun A outer s H args us vs Q E room gd e0 hb rv ⟨hlen, ι, h, ws, rel, hv, post⟩ => False.elim post⟩, fun _ _ _ => rfl⟩
  | k + 1 => by
    have ih := fc_all hb hg hE hD k
    refine ⟨hb, hg, fun f hf => ?_⟩
    obtain ⟨d, hd⟩ := lookup_of hf
    obtain ⟨st, fa, fd, h1, h2, h3, h4⟩ := (hD _ (mem_of_lookup hd)).ex
    have e : (mkC D gl isA exs fuel (k + 1)).cn.call f = runF (mkC D gl isA exs fuel k) d := by
      funext ws h
      show (match D.lookup f with
        | some d => runF (mkC D gl isA exs fuel k) d ws h
        | none => .stuck) = _
      rw [hd]
    refine ⟨fa, fd, d.ps, h2, h1.kp, h3, ?_, fun ws h hl => ?_⟩
    · rw [e]
      exact def_ok h1 h4 ih (hE k)
    · rw [e]
      unfold runF
      rw [if_neg hl]

/-! ### the law's call -/
/-- what may be tracked at the start: the script and the table of modules, unless the module's own -/
def hScr (K : PySem.W.Frag) (a : Addr) (o q : Obj) (xs : List V) : Hp := fun b => if b = a ∧ K.lookup a = none then some (.frz o (.lst xs)) else if b = sysModules ∧ K.lookup sysModules = none then some (.frz q (.own sysModules)) else none
theorem hScr_at {K : PySem.W.Frag} {a b : Addr} {o q : Obj} {xs : List V} {u : HO} (h : hScr K a o q xs b = some u) : (b = a ∧ K.lookup a = none ∧ u = .frz o (.lst xs)) ∨ (b = sysModules ∧ K.lookup sysModules = none ∧ u = .frz q (.own sysModules)) := by
  unfold hScr at h
  split at h
  · rename_i z
    cases h
    exact .inl ⟨z.1, z.2, rfl⟩
  · split at h
    · rename_i z
      cases h
      exact .inr ⟨z.1, z.2, rfl⟩
    · cases h
theorem law_callG {P : Program} {w : World} {K : PySem.W.Frag} {mg mb : Str → Option Value} {k : Nat} {fa a : Addr} {fd : FuncData} {x : Str} {m : List W → List O → R W} {s₁ : Shared} {vs : List Value} {ns : List Int}
    (KX : K.In s₁.heap) (hns : s₁.heap.Ns mainGlobals mg) (hb : s₁.heap.Ns builtinsNs mb) (hbb : ∀ x : Str, x ≠ "__name__" → mb x = bootBuiltins x) (hlim : s₁.heap.NoLimit) (hsm : ∃ mm, s₁.heap.Ns sysModules mm) (hg : s₁.gens = #[])
    (ha : s₁.heap.get? a = some { cls := .type "list", data := .seq vs.toArray }) (hi : IntsAre vs ns) (hl : ns.length ≤ sizeLine) (hr : Room k callerA)
    (F : ∀ base : Heap, K.In base → base.Ns mainGlobals mg → ∃ G : Pg, G.P = P ∧ G.w = w ∧ G.K = K ∧ G.mg = mg ∧ G.base = base ∧ G.i0 = [] ∧ FnG G k fa fd [x] (spI G m 1)) (hbind : ∀ (s : Shared) (u : Value), BindsTo s fd ⟨[u], []⟩ [(x, u)])
    (hm : ∃ h', m [.slst (ns.map W.int)] [] = .ok (.bl true) h') :
    codeAny (model P w) callerA (.call (.ref fa) ⟨[.ref a], []⟩) (fun r s' => r = .ok (.ret (.bool true)) ∧ OldK s₁.heap s'.heap ∧ s'.os = s₁.os ∧ AllBare s'.gens) s₁ := by
  have rv := vals_ints hi
  have lenV := hi.length
  let o : Obj := { cls := .type "list", data := .seq vs.toArray }
  obtain ⟨mm0, qm, qes, qep, hqm, hqd, _⟩ := hsm
  have hne : sysModules ≠ a := fun z => by
    subst z
    rw [ha] at hqm
    cases hqm
    cases (show Data.seq vs.toArray _ = Data.dict qes qep from hqd)
  let H := hScr K a o qm (ns.map V.int)
  have free : ∀ {b : Addr} {q : Obj}, s₁.heap.get? b = some q → (b = a → K.lookup a ≠ none) → (b = sysModules → K.lookup sysModules ≠ none) → (hidT s₁.heap H).get? b = some q := fun {b q} e z z2 => hidT_get e (by
    show hScr K a o qm (ns.map V.int) b = none
    unfold hScr
    rw [if_neg fun y => z y.1 y.2]
    exact if_neg fun y => z2 y.1 y.2)
  have dicts : ∀ {b : Addr} {mm : Str → Option Value}, b ≠ sysModules → s₁.heap.Ns b mm → (hidT s₁.heap H).Ns b mm := by
    rintro b mm nb ⟨q, es, ep, e, dd, r⟩
    refine ⟨q, es, ep, free e (fun z => ?_) (fun z => absurd z nb), dd, r⟩
    subst z
    rw [ha] at e
    cases e
    cases (show Data.seq vs.toArray _ = Data.dict es ep from dd)
  have inB : K.In (hidT s₁.heap H) := fun b q e => free (KX b q e) (fun z y => by subst z; rw [y] at e; cases e) (fun z y => by subst z; rw [y] at e; cases e)
  have md : Mod K mg (hidT s₁.heap H) := ⟨inB, dicts (by decide) hns, ⟨mb, dicts (by decide) hb, hbb⟩, let ⟨mc, h1, h2⟩ := hlim; ⟨mc, dicts (by decide) h1, h2⟩⟩
  have hok : HOk P w H s₁.heap := by
    intro b u e
    rcases hScr_at e with ⟨rfl, _, rfl⟩ | ⟨rfl, _, rfl⟩
    · exact ⟨ha, by rw [List.length_map]; exact hl, vs, _, rv, ha⟩
    · exact ⟨hqm, ⟨qm, hqm⟩⟩
  obtain ⟨G, rfl, rfl, rfl, rfl, hbase, hi0, fn⟩ := F (hidT s₁.heap H) inB (dicts (by decide) hns)
  have stl : StL G.K H a (ns.map V.int) := by
    cases hk : G.K.lookup a with
    | some q =>
      have e := KX a q hk
      rw [ha] at e
      cases e
      exact .inr ⟨_, vs.toArray, _, hk, rfl, by rw [List.size_toArray, lenV]; exact hl, by simpa using rv⟩
    | none => exact .inl ⟨o, if_pos ⟨rfl, hk⟩⟩
  have e0 : Env0 G.P G.w G.K G.mg G.base callerA [] s₁ H := by
    rw [hbase]
    exact ⟨rfl, md, fun b q e => of_hidT e, Nat.le_of_eq (hidT_size _ _), trivial, fun b hb => absurd (show b ∈ ([] : List Addr) from hb) (by simp), hok, .of_eq hg⟩
  have vr : ∀ ns : List Int, VRs G H [] (ns.map W.int) (ns.map V.int) := by
    intro ns
    induction ns with
    | nil => exact .nil
    | cons n ns ih => exact .cons (.int n) ih
  have smt : SmT G.K H := by
    cases hk : G.K.lookup sysModules with
    | some q =>
      have e := KX sysModules q hk
      rw [hqm] at e
      cases e
      exact .inr ⟨_, qes, qep, hk, hqd⟩
    | none => exact .inl ⟨qm, .own sysModules, qes, qep, by
        show hScr G.K a o qm (ns.map V.int) sysModules = _
        unfold hScr
        rw [if_neg fun y => hne y.1]
        exact if_pos ⟨rfl, hk⟩, hqd⟩
  obtain ⟨h', hm⟩ := hm
  have sp : spI G m 1 [.ref a] H (fun v _ => v = .bl true) (fun _ _ _ => False) := by
    refine ⟨rfl, [], [], [.slst (ns.map W.int)], ⟨rfl, fun n o a e => by simp at e, fun m n a e => by simp at e, ⟨[], by rw [hi0]; rfl⟩, smt⟩, .cons (.slst stl (vr ns)) .nil, ?_⟩
    rw [hm]
    intro ι' H' s r v hv
    cases hv
    rfl
  refine codeAny_mono (fn.run callerA [] s₁ H ⟨[.ref a], []⟩ [.ref a] [.ref a] _ _ hr rfl e0 (hbind s₁ (.ref a)) (.cons rfl .nil) sp) fun r s' q => ?_
  match r, q with
  | .error e, q => obtain ⟨_, _, _, _, _, _, _, _, _, _, _, _, z⟩ := q; exact z.elim
  | .ok .next, q => exact False.elim q
  | .ok .brk, q => exact False.elim q
  | .ok .cont, q => exact False.elim q
  | .ok (.ret u), q =>
    obtain ⟨v, H', os, bare, un, hok', r', q⟩ := q
    have q' : v = .bl true := q
    subst q'
    obtain rfl : u = Value.bool true := r'
    refine ⟨rfl, OldK.of_keep fun b q e => ?_, os, bare⟩
    cases hH : H b with
    | none => exact un.keep b q e hH (fun z => absurd (show b ∈ ([] : List Addr) from z) (by simp)) (by simp)
    | some u =>
      rcases hScr_at hH with ⟨rfl, _, rfl⟩ | ⟨rfl, _, rfl⟩
      · obtain ⟨e2, _⟩ := hok' _ _ (un.frzs _ _ _ hH)
        rw [ha] at e
        cases e
        exact e2
      · obtain ⟨e2, _⟩ := hok' _ _ (un.frzs _ _ _ hH)
        rw [hqm] at e
        cases e
        exact e2
theorem walkG {l : PySem.W.OpenLaw} {n k : Nat} {q : Program} {loose : List Str} {XP : (Str → Option Value) → Heap → Prop} {YP : World → Heap → Prop} {d : DefRec} {K : Params → PySem.W.Frag} {x : Str} {m : List W → List O → R W}
    (hn : l.most = some n) (hn2 : n ≤ sizeLine) (hdf : d.params.defaults = []) (hr : Room k callerA) (hq : importsNone q = true)
    (hY : ∀ (w : World) (h : Heap), YP w h → (K w.params).In h)
    (F : ∀ (w : World) (mg : Str → Option Value) (fa : Addr) (h : Heap), (K w.params).In h → h.Ns mainGlobals mg → mg d.name = some (.ref fa) →
      ∃ fd : FuncData, (∀ (s : Shared) (u : Value), BindsTo s fd ⟨[u], []⟩ [(x, u)]) ∧
        ∀ base : Heap, (K w.params).In base → base.Ns mainGlobals mg → ∃ G : Pg, G.P = l.prog ∧ G.w = w ∧ G.K = K w.params ∧ G.mg = mg ∧ G.base = base ∧ G.i0 = [] ∧ FnG G k fa fd [x] (spI G m 1))
    (hm : ∀ ns : List Int, ns.length ≤ n → ∃ h', m [.slst (ns.map W.int)] [] = .ok (.bl true) h') :
    PySem.W.WalkO q loose XP YP l.row.toRowW d [] (fun f vs => PySem.call f vs) := by
  refine Att.attach_call hn hdf fun w s₀ s₁ mg mb fa o pm cd doc a vs ns G Y ho hd hcd hmg hobj hints hlen hg => ?_
  obtain ⟨fd, hb, hF⟩ := F w mg fa _ (hY w _ Y) G.T.g hmg
  exact law_callG (hY w _ Y) G.T.g G.T.b G.T.builtins G.T.nolimit (let ⟨mm, e, _⟩ := (G.T.seer hq).mods; ⟨mm, e⟩) hg hobj hints (Nat.le_trans hlen hn2) hr hF hb (hm ns hlen)
end
end MP
set_option maxRecDepth 100000
set_option maxHeartbeats 4000000
namespace MP
open PySem PySem.Spec PyProof.Rows L2
theorem defOk_of {G : Pg} {h : Heap} {t : Tx} {f : Str} {d : FD} {st : Stmt} {fa : Addr} {oc : Value} {od an : Option Addr} {osl : Array (Option Value)} {kV doc pm cdv ct : Value} (X : G.K.In h) (N : h.Ns mainGlobals G.mg)
    (a : PySem.W.nsIn G.K mainGlobals f = some (some (.ref fa))) (l : G.K.lookup fa = some ⟨oc, od, .func (PySem.W.fnOf f f (defArgs st) (defBody st) (defScope st) .none kV doc pm an cdv ct), osl⟩)
    (c : PySem.W.codeIn G.K cdv f = true) (k : PySem.W.keepIn G.K (.ref fa) = true)
    (hb : ∀ (kV doc pm : Value) (an : Option Addr) (cdv ct : Value) (us : List Value), us.length = d.ps.length → bindArgs (PySem.W.fnOf f f (defArgs st) (defBody st) (defScope st) .none kV doc pm an cdv ct) ⟨us, []⟩ = pure (d.ps.zip us))
    (hc : chkD t st d = true) : DefOk G t f d :=
  ⟨st, fa, _, fun_mk l c k, PySem.W.mg_of X N a, (fun_mk l c k).binds hb, hc⟩
/-- a module's constant -/
structure GlOk (G : Pg) (x : Str) (w : W) : Prop where
  ok : ∃ u v, G.mg x = some u ∧ RelV v u ∧ ∀ ι H, (∃ r, ι = G.i0 ++ r) → VR G H ι w v
theorem gl_str {G : Pg} {h : Heap} {x y : Str} {t : Tok} (X : G.K.In h) (N : h.Ns mainGlobals G.mg) (a : PySem.W.nsIn G.K mainGlobals x = some (some (.str y t))) : GlOk G x (.str y) := ⟨_, .str y, PySem.W.mg_of X N a, ⟨t, rfl⟩, fun _ _ _ => .str y⟩
theorem gl_int {G : Pg} {h : Heap} {x : Str} {y : Int} {t : Tok} (X : G.K.In h) (N : h.Ns mainGlobals G.mg) (a : PySem.W.nsIn G.K mainGlobals x = some (some (.int y t))) : GlOk G x (.int y) := ⟨_, .int y, PySem.W.mg_of X N a, ⟨t, rfl⟩, fun _ _ _ => .int y⟩
theorem mem_lookup' {α : Type} {D : List (Str × α)} {f : Str} {d : α} : D.lookup f = some d → (f, d) ∈ D := by
  induction D with
  | nil => intro h; simp at h
  | cons p D ih =>
    obtain ⟨g, d'⟩ := p
    intro h
    rw [List.lookup_cons] at h
    cases hb : f == g with
    | true =>
      rw [hb] at h
      cases h
      have := beq_iff_eq.mp hb
      subst this
      exact List.mem_cons_self
    | false =>
      rw [hb] at h
      exact List.mem_cons_of_mem _ (ih h)
/-! ### the text's classes -/
/-- an exception of the class at Cx met by a clause of the class at Cy -/
theorem exm_of {K : PySem.W.Frag} {Cx Cy : Addr} {b : Bool} (h1 : PySem.W.subIn K (.ref Cy) (.type "BaseException") = some true) (h2 : PySem.W.isClsIn K Cy = true) (h3 : PySem.W.typeIn K (.ref Cy) = some (.type "type")) (h4 : PySem.W.subIn K (.ref Cx) (.ref Cy) = some b) :
    PySem.W.exmOne K (.ref Cx) (.ref Cy) = some b := by
  have a1 : (PySem.W.subIn K (.ref Cy) (.type "BaseException") == some true) = true := by rw [h1]; rfl
  have a2 : ((PySem.W.clsIn K Cy).isSome && PySem.W.typeIn K (.ref Cy) == some (.type "type")) = true := by
    rw [h3, show (PySem.W.clsIn K Cy).isSome = true from h2]; rfl
  unfold PySem.W.exmOne
  rw [if_pos a1]
  show (if ((PySem.W.clsIn K Cy).isSome && PySem.W.typeIn K (.ref Cy) == some (.type "type")) = true then PySem.W.subIn K (.ref Cx) (.ref Cy) else none) = some b
  rw [if_pos a2]
  exact h4
theorem exC_of {G : Pg} {h : Heap} {st : Stmt} {q b pv f x : Str} {C fI B N : Addr} {oc : Value} {od an : Option Addr} {osl : Array (Option Value)} {kV doc pm cdv ct : Value} {nm q2 : Str} {bs bm : List Value} {sn : List Str} {sub : List Value} {ab : Bool} {col : Option Bool} {dd : Option Addr} {m0 m1 m2 m3 m5 : Option Value}
    (X : G.K.In h) (Ng : h.Ns mainGlobals G.mg) (hcls : G.cls x = some C) (aC : PySem.W.nsIn G.K mainGlobals x = some (some (.ref C))) (aB : PySem.W.nsIn G.K mainGlobals b = some (some (.ref B))) (T : BsC G.K B)
    (xL : G.K.lookup C = some (excClassObj nm q2 C N bs bm true sn sub ab col dd m0 m1 m2 m3 m5 "ValueError.__new__")) (hbm : PySem.HandSPX.refsVE bm = true)
    (sa : PySem.W.findIn G.K (.ref C) "__setattr__" = some (some (.builtin "object.__setattr__"))) (ga : PySem.W.findIn G.K (.ref C) "__getattribute__" = some (some (.builtin "BaseException.__getattribute__"))) (gg : PySem.W.findIn G.K (.ref C) "__getattr__" = some none)
    (nb : PySem.W.findIn G.K (.ref C) f = some none) (iN : PySem.W.findIn G.K (.ref C) "__init__" = some (some (.ref fI))) (tI : PySem.W.typeIn G.K (.ref fI) = some (.type "function"))
    (lI : G.K.lookup fI = some ⟨oc, od, .func (PySem.W.fnOf "__init__" q (defArgs st) (defBody st) (defScope st) .none kV doc pm an cdv ct), osl⟩) (cI : PySem.W.codeIn G.K cdv q = true) (kI : PySem.W.keepIn G.K (.ref fI) = true)
    (kC : PySem.W.keepIn G.K (.ref C) = true) (eC : PySem.W.subIn G.K (.ref C) (.type "BaseException") = some true) (tC : PySem.W.typeIn G.K (.ref C) = some (.type "type")) (hC : PySem.W.hasDictIn G.K C = true)
    (hbind : ∀ (kV doc pm : Value) (an : Option Addr) (cdv ct : Value) (us : List Value), us.length = (["self", pv] : List Str).length → bindArgs (PySem.W.fnOf "__init__" q (defArgs st) (defBody st) (defScope st) .none kV doc pm an cdv ct) ⟨us, []⟩ = pure ((["self", pv] : List Str).zip us))
    (hc : initB st b pv f = true) : ∃ fd, ExC G x f C fI fd pv := by
  have F := fun_mk lI cI kI
  exact ⟨_, hcls, PySem.W.mg_of X Ng aC, ⟨⟨nm, q2, N, bs, bm, sn, sub, ab, col, dd, m0, m1, m2, m3, m5, xL, hbm⟩, sa, eC, tC, kC⟩, iN, tI, init_fn F hc (PySem.W.mg_of X Ng aB) T, F.binds hbind, nb, ⟨ga, gg, eC, hC⟩⟩
theorem ec_of {G : Pg} {h : Heap} {C : Cc} {lvl : Nat} {exs : List (Str × Str)} {cs : List (Str × Addr)} {ps : List ((Str × Str) × Bool)} (X : G.K.In h) (Ng : h.Ns mainGlobals G.mg) (hl : 2 ≤ lvl) (hx : C.exs = exs) (hi : ∀ x y, C.isA x y = ps.lookup (x, y)) (hcls : ∀ x, G.cls x = cs.lookup x)
    (hns : ∀ p ∈ cs, PySem.W.nsIn G.K mainGlobals p.1 = some (some (.ref p.2))) (hm : ∀ p ∈ exs, ∃ Ca fI fd pv, ExC G p.1 p.2 Ca fI fd pv)
    (hp : ∀ q ∈ ps, ∀ Cx Cy, cs.lookup q.1.1 = some Cx → cs.lookup q.1.2 = some Cy → PySem.W.exmOne G.K (.ref Cx) (.ref Cy) = some q.2) : Ec G C lvl exs (cs.map (·.1)) := by
  have memA : ∀ {α : Type} {l : List (Str × α)} {y : Str} {a : α}, l.lookup y = some a → (y, a) ∈ l := fun h => mem_lookup' h
  have memP : ∀ {l : List ((Str × Str) × Bool)} {k : Str × Str} {b : Bool}, l.lookup k = some b → (k, b) ∈ l := by
    intro l k b
    induction l with
    | nil => intro h; simp at h
    | cons p l ih =>
      obtain ⟨j, c⟩ := p
      intro h
      rw [List.lookup_cons] at h
      cases hb : k == j with
      | true =>
        rw [hb] at h
        cases h
        rw [beq_iff_eq.mp hb]
        exact List.mem_cons_self
      | false =>
        rw [hb] at h
        exact List.mem_cons_of_mem _ (ih h)
  refine ⟨hl, hx, fun x f hf => hm _ hf, fun y hy => ?_⟩
  have : ∃ Cy, cs.lookup y = some Cy := by
    clear hp hm hns hcls
    induction cs with
    | nil => simp at hy
    | cons p cs ih =>
      obtain ⟨z, c⟩ := p
      rw [List.lookup_cons]
      cases hb : y == z with
      | true => exact ⟨c, rfl⟩
      | false =>
        rw [List.map_cons] at hy
        rcases List.mem_cons.mp hy with hy | hy
        · rw [hy] at hb; simp at hb
        · exact ih hy
  obtain ⟨Cy, ey⟩ := this
  refine ⟨Cy, PySem.W.mg_of X Ng (hns _ (memA ey)), fun x b Cx h1 h2 => ?_⟩
  rw [hi] at h1
  rw [hcls] at h2
  exact hp _ (memP h1) Cx Cy h2 ey
/-- the law's promise from its def and what it leans on -/
theorem law_fn {G : Pg} {h : Heap} {D : List (Str × FD)} {gl : List (Str × W)} {isA : Str → Str → Option Bool} {exs : List (Str × Str)} {cls : List Str} {fuel k : Nat} {d : FD} {st : Stmt} {fa : Addr} {f : Str} {oc : Value} {od an : Option Addr} {osl : Array (Option Value)} {kV doc pm cdv ct : Value} (X : G.K.In h) (N : h.Ns mainGlobals G.mg)
    (hb : ∀ x ∈ bltNames, PySem.W.nsIn G.K mainGlobals x = some none) (hg : ∀ p ∈ gl, GlOk G p.1 p.2) (hE : ∀ k, Ec G (mkC D (fun x => gl.lookup x) isA exs fuel k) (k + 3) exs cls) (hD : ∀ p ∈ D, DefOk G ⟨D.map (·.1), exs, cls⟩ p.1 p.2)
    (l : G.K.lookup fa = some ⟨oc, od, .func (PySem.W.fnOf f f (defArgs st) (defBody st) (defScope st) .none kV doc pm an cdv ct), osl⟩)
    (c : PySem.W.codeIn G.K cdv f = true) (kp : PySem.W.keepIn G.K (.ref fa) = true) (hc : chkD ⟨D.map (·.1), exs, cls⟩ st d = true) :
    FnG G (k + 4) fa (PySem.W.fnOf f f (defArgs st) (defBody st) (defScope st) .none kV doc pm an cdv ct) d.ps (spI G (runF (mkC D (fun x => gl.lookup x) isA exs fuel k) d) d.ps.length) :=
  def_ok (fun_mk l c kp) hc (fc_all (fun x hx => PySem.W.mg_none_of X N (hb x hx)) (fun x w e => (hg _ (mem_lookup' e)).ok) hE hD k) (hE k)
end MP
set_option maxRecDepth 100000
set_option maxHeartbeats 4000000
namespace MP
open PySem PySem.Spec PyProof.Rows L2
/-! ### the interpreter's equations; what follows a step is not looked into before the step is done -/
def ifR {α : Type} (b : Bool) (x y : R α) (_t : Tag x := .mk) (_u : Tag y := .mk) : R α := if b = true then x else y
def ifS (b : Bool) (x y : RS) (_t : Tag x := .mk) (_u : Tag y := .mk) : RS := if b = true then x else y
@[simp] theorem ifR_t {α : Type} {x y : R α} : ifR true x y = x := rfl
@[simp] theorem ifR_f {α : Type} {x y : R α} : ifR false x y = y := rfl
@[simp] theorem ifS_t {x y : RS} : ifS true x y = x := rfl
@[simp] theorem ifS_f {x y : RS} : ifS false x y = y := rfl
@[simp] theorem noX_ok {α : Type} (a : α) (h : List O) : noX (R.ok a h) = R.ok a h := rfl
def negW (x : W) (h : List O) : R W := match x with | .int i => .ok (.int (-i)) h | _ => .stuck
@[simp] theorem negW_i (i : Int) (h : List O) : negW (.int i) h = .ok (.int (-i)) h := rfl
def subO (x : Opd) (y : W) (h : List O) : R W := match x with
    | .inl ws => match y with
      | .int i => ofO (atI ws i) h
      | _ => .stuck
    | .inr x => subW x y h
@[simp] theorem subO_l (ws : List W) (i : Int) (h : List O) : subO (.inl ws) (.int i) h = ofO (atI ws i) h := rfl
@[simp] theorem subO_r (x y : W) (h : List O) : subO (.inr x) y h = subW x y h := rfl
def sliceW (x : W) (l u : Option Int) (h : List O) : R W := match x with
    | .str z => chk (decide (z.length ≤ sizeLine)) (.ok (.str (cutS z l u)) h)
    | .tup ws => .ok (.tup (cutW ws l u)) h
    | x => (lsqO h (.inr x)).bind fun ws h => .ok (.slst (cutW ws l u)) h
@[simp] theorem sliceW_t (ws : List W) (l u : Option Int) (h : List O) : sliceW (.tup ws) l u h = .ok (.tup (cutW ws l u)) h := rfl
@[simp] theorem sliceW_l (ws : List W) (l u : Option Int) (h : List O) : sliceW (.slst ws) l u h = .ok (.slst (cutW ws l u)) h := rfl
@[simp] theorem sliceW_s (z : Str) (l u : Option Int) (h : List O) : sliceW (.str z) l u h = chk (decide (z.length ≤ sizeLine)) (.ok (.str (cutS z l u)) h) := rfl
def repW (ws : List W) (y : W) (h : List O) : R (List W) := match y with
    | .int k => chk (decide (-(2 ^ 63) ≤ k ∧ k < 2 ^ 63) && decide (ws.length * k.toNat ≤ sizeLine)) (.ok (List.replicate k.toNat ws).flatten h)
    | _ => .stuck
@[simp] theorem repW_i (ws : List W) (k : Int) (h : List O) : repW ws (.int k) h = chk (decide (-(2 ^ 63) ≤ k ∧ k < 2 ^ 63) && decide (ws.length * k.toNat ≤ sizeLine)) (.ok (List.replicate k.toNat ws).flatten h) := rfl
def lcBody (C : Cn) (elt : Me) (tg : Mt) (ifs : Mo) (ℓ0 : Lo) (w : W) (h : List O) : R (Option W) := (evt C tg w ℓ0 h).bind fun ℓ2 h => (evf C ifs ℓ2 h).bind fun k h => ifR k (((ev C elt).v ℓ2 h).bind fun y h => .ok (some y) h) (.ok none h)
def lenO (x : Opd) (h : List O) : R W := match x with
    | .inl ws => .ok (.int ws.length) h
    | .inr w => lenW w h
@[simp] theorem lenO_l (ws : List W) (h : List O) : lenO (.inl ws) h = .ok (.int ws.length) h := rfl
@[simp] theorem lenO_r (w : W) (h : List O) : lenO (.inr w) h = lenW w h := rfl
def strR {α : Type} (x : W) (f : Str → R α) (_t : Tag f := .mk) : R α := match x with
  | .str a => f a
  | _ => .stuck
@[simp] theorem strR_s {α : Type} (x : Str) (f : Str → R α) : strR (.str x) f = f x := rfl
def optI (w : W) (h : List O) : R (Option Int) := match w with
    | .int i => .ok (some i) h
    | _ => .stuck
@[simp] theorem optI_i (i : Int) (h : List O) : optI (.int i) h = .ok (some i) h := rfl
def forBody (C : Cc) (t : Mt) (b : Mss) (w : W) (ℓ : Lo) (h : List O) : RS := liftE ℓ (noX (evt C.cn t w ℓ h)) fun ℓ h => evSs C b ℓ h
def blR (w : W) (h : List O) : R Bool := match w with
  | .bl b => .ok b h
  | _ => .stuck
@[simp] theorem blR_b (b : Bool) (h : List O) : blR (.bl b) h = .ok b h := rfl
@[simp] theorem unBl_ok' (b : Bool) (h : List O) : unBl (.ok (.bl b) h) = .ok b h := rfl
section
variable (C : Cn) (ℓ : Lo) (h : List O)

@[simp] theorem v_var (i : Nat) : (ev C (.var i)).v ℓ h = (ofO (getL ℓ i) h) := by rfl
@[simp] theorem t_var (i : Nat) : (ev C (.var i)).t ℓ h = ((ofO (getL ℓ i) h) : R W).bind fun w h => truR h w := by rfl
@[simp] theorem l_var (i : Nat) : (ev C (.var i)).l ℓ h = ((ofO (getL ℓ i) h) : R W).bind fun w h => seqR h w := by rfl
@[simp] theorem o_var (i : Nat) : (ev C (.var i)).opd ℓ h = ((ofO (getL ℓ i) h) : R W).bind fun w h => .ok (.inr w) h := by rfl
@[simp] theorem v_glob (x : Str) : (ev C (.glob x)).v ℓ h = (ofO (C.gl x) h) := by rfl
@[simp] theorem t_glob (x : Str) : (ev C (.glob x)).t ℓ h = ((ofO (C.gl x) h) : R W).bind fun w h => truR h w := by rfl
@[simp] theorem l_glob (x : Str) : (ev C (.glob x)).l ℓ h = ((ofO (C.gl x) h) : R W).bind fun w h => seqR h w := by rfl
@[simp] theorem o_glob (x : Str) : (ev C (.glob x)).opd ℓ h = ((ofO (C.gl x) h) : R W).bind fun w h => .ok (.inr w) h := by rfl
@[simp] theorem v_non  : (ev C .non).v ℓ h = (.ok .non h) := by rfl
@[simp] theorem t_non  : (ev C .non).t ℓ h = ((.ok .non h) : R W).bind fun w h => truR h w := by rfl
@[simp] theorem l_non  : (ev C .non).l ℓ h = ((.ok .non h) : R W).bind fun w h => seqR h w := by rfl
@[simp] theorem o_non  : (ev C .non).opd ℓ h = ((.ok .non h) : R W).bind fun w h => .ok (.inr w) h := by rfl
@[simp] theorem v_bl (b : Bool) : (ev C (.bl b)).v ℓ h = (.ok (.bl b) h) := by rfl
@[simp] theorem t_bl (b : Bool) : (ev C (.bl b)).t ℓ h = ((.ok (.bl b) h) : R W).bind fun w h => truR h w := by rfl
@[simp] theorem l_bl (b : Bool) : (ev C (.bl b)).l ℓ h = ((.ok (.bl b) h) : R W).bind fun w h => seqR h w := by rfl
@[simp] theorem o_bl (b : Bool) : (ev C (.bl b)).opd ℓ h = ((.ok (.bl b) h) : R W).bind fun w h => .ok (.inr w) h := by rfl
@[simp] theorem v_int (i : Int) : (ev C (.int i)).v ℓ h = (.ok (.int i) h) := by rfl
@[simp] theorem t_int (i : Int) : (ev C (.int i)).t ℓ h = ((.ok (.int i) h) : R W).bind fun w h => truR h w := by rfl
@[simp] theorem l_int (i : Int) : (ev C (.int i)).l ℓ h = ((.ok (.int i) h) : R W).bind fun w h => seqR h w := by rfl
@[simp] theorem o_int (i : Int) : (ev C (.int i)).opd ℓ h = ((.ok (.int i) h) : R W).bind fun w h => .ok (.inr w) h := by rfl
@[simp] theorem v_str (x : Str) : (ev C (.str x)).v ℓ h = (.ok (.str x) h) := by rfl
@[simp] theorem t_str (x : Str) : (ev C (.str x)).t ℓ h = ((.ok (.str x) h) : R W).bind fun w h => truR h w := by rfl
@[simp] theorem l_str (x : Str) : (ev C (.str x)).l ℓ h = ((.ok (.str x) h) : R W).bind fun w h => seqR h w := by rfl
@[simp] theorem o_str (x : Str) : (ev C (.str x)).opd ℓ h = ((.ok (.str x) h) : R W).bind fun w h => .ok (.inr w) h := by rfl
@[simp] theorem v_tup (es : Mes) : (ev C (.tup es)).v ℓ h = ((evs C es ℓ h).bind fun ws h => chk (decide (ws.length ≤ sizeLine)) (.ok (.tup ws) h)) := by rfl
@[simp] theorem t_tup (es : Mes) : (ev C (.tup es)).t ℓ h = (((evs C es ℓ h).bind fun ws h => chk (decide (ws.length ≤ sizeLine)) (.ok (.tup ws) h)) : R W).bind fun w h => truR h w := by rfl
@[simp] theorem l_tup (es : Mes) : (ev C (.tup es)).l ℓ h = (((evs C es ℓ h).bind fun ws h => chk (decide (ws.length ≤ sizeLine)) (.ok (.tup ws) h)) : R W).bind fun w h => seqR h w := by rfl
@[simp] theorem o_tup (es : Mes) : (ev C (.tup es)).opd ℓ h = (((evs C es ℓ h).bind fun ws h => chk (decide (ws.length ≤ sizeLine)) (.ok (.tup ws) h)) : R W).bind fun w h => .ok (.inr w) h := by rfl
@[simp] theorem v_dct (kvs : Mks) : (ev C (.dct kvs)).v ℓ h = ((evd C kvs ℓ h).bind fun kvs h => chk (decide (kvs.length ≤ 15)) (alloc (.dct (mergeW [] kvs)) h)) := by rfl
@[simp] theorem t_dct (kvs : Mks) : (ev C (.dct kvs)).t ℓ h = (((evd C kvs ℓ h).bind fun kvs h => chk (decide (kvs.length ≤ 15)) (alloc (.dct (mergeW [] kvs)) h)) : R W).bind fun w h => truR h w := by rfl
@[simp] theorem l_dct (kvs : Mks) : (ev C (.dct kvs)).l ℓ h = (((evd C kvs ℓ h).bind fun kvs h => chk (decide (kvs.length ≤ 15)) (alloc (.dct (mergeW [] kvs)) h)) : R W).bind fun w h => seqR h w := by rfl
@[simp] theorem o_dct (kvs : Mks) : (ev C (.dct kvs)).opd ℓ h = (((evd C kvs ℓ h).bind fun kvs h => chk (decide (kvs.length ≤ 15)) (alloc (.dct (mergeW [] kvs)) h)) : R W).bind fun w h => .ok (.inr w) h := by rfl
@[simp] theorem v_frz (a : Me) : (ev C (.frz a)).v ℓ h = (((ev C a).l ℓ h).bind fun ws h => .ok (.slst ws) h) := by rfl
@[simp] theorem t_frz (a : Me) : (ev C (.frz a)).t ℓ h = ((((ev C a).l ℓ h).bind fun ws h => .ok (.slst ws) h) : R W).bind fun w h => truR h w := by rfl
@[simp] theorem l_frz (a : Me) : (ev C (.frz a)).l ℓ h = ((((ev C a).l ℓ h).bind fun ws h => .ok (.slst ws) h) : R W).bind fun w h => seqR h w := by rfl
@[simp] theorem o_frz (a : Me) : (ev C (.frz a)).opd ℓ h = ((((ev C a).l ℓ h).bind fun ws h => .ok (.slst ws) h) : R W).bind fun w h => .ok (.inr w) h := by rfl
@[simp] theorem v_frd (kvs : Mks) : (ev C (.frd kvs)).v ℓ h = ((evd C kvs ℓ h).bind fun kvs h => chk (decide (kvs.length ≤ 15)) (.ok (.sdct (mergeW [] kvs)) h)) := by rfl
@[simp] theorem t_frd (kvs : Mks) : (ev C (.frd kvs)).t ℓ h = (((evd C kvs ℓ h).bind fun kvs h => chk (decide (kvs.length ≤ 15)) (.ok (.sdct (mergeW [] kvs)) h)) : R W).bind fun w h => truR h w := by rfl
@[simp] theorem l_frd (kvs : Mks) : (ev C (.frd kvs)).l ℓ h = (((evd C kvs ℓ h).bind fun kvs h => chk (decide (kvs.length ≤ 15)) (.ok (.sdct (mergeW [] kvs)) h)) : R W).bind fun w h => seqR h w := by rfl
@[simp] theorem o_frd (kvs : Mks) : (ev C (.frd kvs)).opd ℓ h = (((evd C kvs ℓ h).bind fun kvs h => chk (decide (kvs.length ≤ 15)) (.ok (.sdct (mergeW [] kvs)) h)) : R W).bind fun w h => .ok (.inr w) h := by rfl
@[simp] theorem v_bin (op : Operator) (a b : Me) : (ev C (.bin op a b)).v ℓ h = (((ev C a).v ℓ h).bind fun x h => ((ev C b).v ℓ h).bind fun y h => binW op x y h) := by rfl
@[simp] theorem t_bin (op : Operator) (a b : Me) : (ev C (.bin op a b)).t ℓ h = ((((ev C a).v ℓ h).bind fun x h => ((ev C b).v ℓ h).bind fun y h => binW op x y h) : R W).bind fun w h => truR h w := by rfl
@[simp] theorem l_bin (op : Operator) (a b : Me) : (ev C (.bin op a b)).l ℓ h = ((((ev C a).v ℓ h).bind fun x h => ((ev C b).v ℓ h).bind fun y h => binW op x y h) : R W).bind fun w h => seqR h w := by rfl
@[simp] theorem o_bin (op : Operator) (a b : Me) : (ev C (.bin op a b)).opd ℓ h = ((((ev C a).v ℓ h).bind fun x h => ((ev C b).v ℓ h).bind fun y h => binW op x y h) : R W).bind fun w h => .ok (.inr w) h := by rfl
@[simp] theorem v_neg (a : Me) : (ev C (.neg a)).v ℓ h = (((ev C a).v ℓ h).bind fun x h => negW x h) := by rfl
@[simp] theorem t_neg (a : Me) : (ev C (.neg a)).t ℓ h = ((((ev C a).v ℓ h).bind fun x h => negW x h) : R W).bind fun w h => truR h w := by rfl
@[simp] theorem l_neg (a : Me) : (ev C (.neg a)).l ℓ h = ((((ev C a).v ℓ h).bind fun x h => negW x h) : R W).bind fun w h => seqR h w := by rfl
@[simp] theorem o_neg (a : Me) : (ev C (.neg a)).opd ℓ h = ((((ev C a).v ℓ h).bind fun x h => negW x h) : R W).bind fun w h => .ok (.inr w) h := by rfl
@[simp] theorem v_call (f : Str) (es : Mes) : (ev C (.call f es)).v ℓ h = ((evs C es ℓ h).bind fun ws h => C.call f ws h) := by rfl
@[simp] theorem t_call (f : Str) (es : Mes) : (ev C (.call f es)).t ℓ h = (((evs C es ℓ h).bind fun ws h => C.call f ws h) : R W).bind fun w h => truR h w := by rfl
@[simp] theorem l_call (f : Str) (es : Mes) : (ev C (.call f es)).l ℓ h = (((evs C es ℓ h).bind fun ws h => C.call f ws h) : R W).bind fun w h => seqR h w := by rfl
@[simp] theorem o_call (f : Str) (es : Mes) : (ev C (.call f es)).opd ℓ h = (((evs C es ℓ h).bind fun ws h => C.call f ws h) : R W).bind fun w h => .ok (.inr w) h := by rfl
@[simp] theorem v_isi (a : Me) (ts : List String) : (ev C (.isi a ts)).v ℓ h = (((ev C a).v ℓ h).bind fun w h => isiW ts w h) := by rfl
@[simp] theorem t_isi (a : Me) (ts : List String) : (ev C (.isi a ts)).t ℓ h = ((((ev C a).v ℓ h).bind fun w h => isiW ts w h) : R W).bind fun w h => truR h w := by rfl
@[simp] theorem l_isi (a : Me) (ts : List String) : (ev C (.isi a ts)).l ℓ h = ((((ev C a).v ℓ h).bind fun w h => isiW ts w h) : R W).bind fun w h => seqR h w := by rfl
@[simp] theorem o_isi (a : Me) (ts : List String) : (ev C (.isi a ts)).opd ℓ h = ((((ev C a).v ℓ h).bind fun w h => isiW ts w h) : R W).bind fun w h => .ok (.inr w) h := by rfl
@[simp] theorem v_sub (a i : Me) : (ev C (.sub a i)).v ℓ h = (((ev C a).opd ℓ h).bind fun x h => ((ev C i).v ℓ h).bind fun y h => subO x y h) := by rfl
@[simp] theorem t_sub (a i : Me) : (ev C (.sub a i)).t ℓ h = ((((ev C a).opd ℓ h).bind fun x h => ((ev C i).v ℓ h).bind fun y h => subO x y h) : R W).bind fun w h => truR h w := by rfl
@[simp] theorem l_sub (a i : Me) : (ev C (.sub a i)).l ℓ h = ((((ev C a).opd ℓ h).bind fun x h => ((ev C i).v ℓ h).bind fun y h => subO x y h) : R W).bind fun w h => seqR h w := by rfl
@[simp] theorem o_sub (a i : Me) : (ev C (.sub a i)).opd ℓ h = ((((ev C a).opd ℓ h).bind fun x h => ((ev C i).v ℓ h).bind fun y h => subO x y h) : R W).bind fun w h => .ok (.inr w) h := by rfl
@[simp] theorem v_slice (a : Me) (lo hi : Mo) : (ev C (.slice a lo hi)).v ℓ h = (((ev C a).v ℓ h).bind fun x h => (evo C lo ℓ h).bind fun l h => (evo C hi ℓ h).bind fun u h => sliceW x l u h) := by rfl
@[simp] theorem t_slice (a : Me) (lo hi : Mo) : (ev C (.slice a lo hi)).t ℓ h = ((((ev C a).v ℓ h).bind fun x h => (evo C lo ℓ h).bind fun l h => (evo C hi ℓ h).bind fun u h => sliceW x l u h) : R W).bind fun w h => truR h w := by rfl
@[simp] theorem l_slice (a : Me) (lo hi : Mo) : (ev C (.slice a lo hi)).l ℓ h = ((((ev C a).v ℓ h).bind fun x h => (evo C lo ℓ h).bind fun l h => (evo C hi ℓ h).bind fun u h => sliceW x l u h) : R W).bind fun w h => seqR h w := by rfl
@[simp] theorem o_slice (a : Me) (lo hi : Mo) : (ev C (.slice a lo hi)).opd ℓ h = ((((ev C a).v ℓ h).bind fun x h => (evo C lo ℓ h).bind fun l h => (evo C hi ℓ h).bind fun u h => sliceW x l u h) : R W).bind fun w h => .ok (.inr w) h := by rfl
@[simp] theorem v_lst (es : Mes) : (ev C (.lst es)).v ℓ h = (((evs C es ℓ h).bind fun ws h => chk (decide (ws.length ≤ sizeLine)) (.ok ws h)) : R (List W)).bind fun ws h => alloc (.lst ws) h := by rfl
@[simp] theorem t_lst (es : Mes) : (ev C (.lst es)).t ℓ h = (((evs C es ℓ h).bind fun ws h => chk (decide (ws.length ≤ sizeLine)) (.ok ws h)) : R (List W)).bind fun ws h => .ok (!ws.isEmpty) h := by rfl
@[simp] theorem l_lst (es : Mes) : (ev C (.lst es)).l ℓ h = ((evs C es ℓ h).bind fun ws h => chk (decide (ws.length ≤ sizeLine)) (.ok ws h)) := by rfl
@[simp] theorem o_lst (es : Mes) : (ev C (.lst es)).opd ℓ h = (((evs C es ℓ h).bind fun ws h => chk (decide (ws.length ≤ sizeLine)) (.ok ws h)) : R (List W)).bind fun ws h => .ok (.inl ws) h := by rfl
@[simp] theorem v_lrep (a n : Me) : (ev C (.lrep a n)).v ℓ h = ((((ev C a).l ℓ h).bind fun ws h => ((ev C n).v ℓ h).bind fun y h => repW ws y h) : R (List W)).bind fun ws h => alloc (.lst ws) h := by rfl
@[simp] theorem t_lrep (a n : Me) : (ev C (.lrep a n)).t ℓ h = ((((ev C a).l ℓ h).bind fun ws h => ((ev C n).v ℓ h).bind fun y h => repW ws y h) : R (List W)).bind fun ws h => .ok (!ws.isEmpty) h := by rfl
@[simp] theorem l_lrep (a n : Me) : (ev C (.lrep a n)).l ℓ h = (((ev C a).l ℓ h).bind fun ws h => ((ev C n).v ℓ h).bind fun y h => repW ws y h) := by rfl
@[simp] theorem o_lrep (a n : Me) : (ev C (.lrep a n)).opd ℓ h = ((((ev C a).l ℓ h).bind fun ws h => ((ev C n).v ℓ h).bind fun y h => repW ws y h) : R (List W)).bind fun ws h => .ok (.inl ws) h := by rfl
@[simp] theorem v_lcat (a b : Me) : (ev C (.lcat a b)).v ℓ h = ((((ev C a).opd ℓ h).bind fun x h => ((ev C b).opd ℓ h).bind fun y h => (lsqO h x).bind fun xs h => (lsqO h y).bind fun ys h => chk (decide (xs.length + ys.length ≤ sizeLine)) (.ok (xs ++ ys) h)) : R (List W)).bind fun ws h => alloc (.lst ws) h := by rfl
@[simp] theorem t_lcat (a b : Me) : (ev C (.lcat a b)).t ℓ h = ((((ev C a).opd ℓ h).bind fun x h => ((ev C b).opd ℓ h).bind fun y h => (lsqO h x).bind fun xs h => (lsqO h y).bind fun ys h => chk (decide (xs.length + ys.length ≤ sizeLine)) (.ok (xs ++ ys) h)) : R (List W)).bind fun ws h => .ok (!ws.isEmpty) h := by rfl
@[simp] theorem l_lcat (a b : Me) : (ev C (.lcat a b)).l ℓ h = (((ev C a).opd ℓ h).bind fun x h => ((ev C b).opd ℓ h).bind fun y h => (lsqO h x).bind fun xs h => (lsqO h y).bind fun ys h => chk (decide (xs.length + ys.length ≤ sizeLine)) (.ok (xs ++ ys) h)) := by rfl
@[simp] theorem o_lcat (a b : Me) : (ev C (.lcat a b)).opd ℓ h = ((((ev C a).opd ℓ h).bind fun x h => ((ev C b).opd ℓ h).bind fun y h => (lsqO h x).bind fun xs h => (lsqO h y).bind fun ys h => chk (decide (xs.length + ys.length ≤ sizeLine)) (.ok (xs ++ ys) h)) : R (List W)).bind fun ws h => .ok (.inl ws) h := by rfl
@[simp] theorem v_lcut (a : Me) (lo hi : Mo) : (ev C (.lcut a lo hi)).v ℓ h = ((((ev C a).opd ℓ h).bind fun x h => (evo C lo ℓ h).bind fun l h => (evo C hi ℓ h).bind fun u h => (lsqO h x).bind fun ws h => .ok (cutW ws l u) h) : R (List W)).bind fun ws h => alloc (.lst ws) h := by rfl
@[simp] theorem t_lcut (a : Me) (lo hi : Mo) : (ev C (.lcut a lo hi)).t ℓ h = ((((ev C a).opd ℓ h).bind fun x h => (evo C lo ℓ h).bind fun l h => (evo C hi ℓ h).bind fun u h => (lsqO h x).bind fun ws h => .ok (cutW ws l u) h) : R (List W)).bind fun ws h => .ok (!ws.isEmpty) h := by rfl
@[simp] theorem l_lcut (a : Me) (lo hi : Mo) : (ev C (.lcut a lo hi)).l ℓ h = (((ev C a).opd ℓ h).bind fun x h => (evo C lo ℓ h).bind fun l h => (evo C hi ℓ h).bind fun u h => (lsqO h x).bind fun ws h => .ok (cutW ws l u) h) := by rfl
@[simp] theorem o_lcut (a : Me) (lo hi : Mo) : (ev C (.lcut a lo hi)).opd ℓ h = ((((ev C a).opd ℓ h).bind fun x h => (evo C lo ℓ h).bind fun l h => (evo C hi ℓ h).bind fun u h => (lsqO h x).bind fun ws h => .ok (cutW ws l u) h) : R (List W)).bind fun ws h => .ok (.inl ws) h := by rfl
@[simp] theorem v_lcomp (elt : Me) (tg : Mt) (src : Mi) (ifs : Mo) (own : List Nat) : (ev C (.lcomp elt tg src ifs own)).v ℓ h = (((evi C src ℓ h).bind fun r h => lcLoop (lcBody C elt tg ifs (wipeL ℓ own)) r.2 0 r.1 h) : R (List W)).bind fun ws h => alloc (.lst ws) h := by rfl
@[simp] theorem t_lcomp (elt : Me) (tg : Mt) (src : Mi) (ifs : Mo) (own : List Nat) : (ev C (.lcomp elt tg src ifs own)).t ℓ h = (((evi C src ℓ h).bind fun r h => lcLoop (lcBody C elt tg ifs (wipeL ℓ own)) r.2 0 r.1 h) : R (List W)).bind fun ws h => .ok (!ws.isEmpty) h := by rfl
@[simp] theorem l_lcomp (elt : Me) (tg : Mt) (src : Mi) (ifs : Mo) (own : List Nat) : (ev C (.lcomp elt tg src ifs own)).l ℓ h = ((evi C src ℓ h).bind fun r h => lcLoop (lcBody C elt tg ifs (wipeL ℓ own)) r.2 0 r.1 h) := by rfl
@[simp] theorem o_lcomp (elt : Me) (tg : Mt) (src : Mi) (ifs : Mo) (own : List Nat) : (ev C (.lcomp elt tg src ifs own)).opd ℓ h = (((evi C src ℓ h).bind fun r h => lcLoop (lcBody C elt tg ifs (wipeL ℓ own)) r.2 0 r.1 h) : R (List W)).bind fun ws h => .ok (.inl ws) h := by rfl
@[simp] theorem v_not (a : Me) : (ev C (.not a)).v ℓ h = (((ev C a).v ℓ h).bind fun w h => (truR h w).bind fun b h => .ok (.bl (!b)) h) := by rfl
@[simp] theorem t_not (a : Me) : (ev C (.not a)).t ℓ h = (((ev C a).t ℓ h).bind fun b h => .ok (!b) h) := by rfl
@[simp] theorem l_not (a : Me) : (ev C (.not a)).l ℓ h = ((((ev C a).v ℓ h).bind fun w h => (truR h w).bind fun b h => .ok (.bl (!b)) h) : R W).bind fun w h => seqR h w := by rfl
@[simp] theorem o_not (a : Me) : (ev C (.not a)).opd ℓ h = ((((ev C a).v ℓ h).bind fun w h => (truR h w).bind fun b h => .ok (.bl (!b)) h) : R W).bind fun w h => .ok (.inr w) h := by rfl
@[simp] theorem v_cmp (op : CmpOp) (a b : Me) : (ev C (.cmp op a b)).v ℓ h = (((ev C a).opd ℓ h).bind fun x h => ((ev C b).opd ℓ h).bind fun y h => cmpO op x y h) := by rfl
@[simp] theorem t_cmp (op : CmpOp) (a b : Me) : (ev C (.cmp op a b)).t ℓ h = (unBl (((ev C a).opd ℓ h).bind fun x h => ((ev C b).opd ℓ h).bind fun y h => cmpO op x y h)) := by rfl
@[simp] theorem l_cmp (op : CmpOp) (a b : Me) : (ev C (.cmp op a b)).l ℓ h = ((((ev C a).opd ℓ h).bind fun x h => ((ev C b).opd ℓ h).bind fun y h => cmpO op x y h) : R W).bind fun w h => seqR h w := by rfl
@[simp] theorem o_cmp (op : CmpOp) (a b : Me) : (ev C (.cmp op a b)).opd ℓ h = ((((ev C a).opd ℓ h).bind fun x h => ((ev C b).opd ℓ h).bind fun y h => cmpO op x y h) : R W).bind fun w h => .ok (.inr w) h := by rfl
@[simp] theorem v_chain (op1 op2 : CmpOp) (a b c : Me) : (ev C (.chain op1 op2 a b c)).v ℓ h = (((ev C a).v ℓ h).bind fun x h => ((ev C b).v ℓ h).bind fun y h => (unBl (cmpW op1 x y h)).bind fun k h => ifR k (((ev C c).v ℓ h).bind fun z h => cmpW op2 y z h) (.ok (.bl false) h)) := by rfl
@[simp] theorem t_chain (op1 op2 : CmpOp) (a b c : Me) : (ev C (.chain op1 op2 a b c)).t ℓ h = (unBl (((ev C a).v ℓ h).bind fun x h => ((ev C b).v ℓ h).bind fun y h => (unBl (cmpW op1 x y h)).bind fun k h => ifR k (((ev C c).v ℓ h).bind fun z h => cmpW op2 y z h) (.ok (.bl false) h))) := by rfl
@[simp] theorem l_chain (op1 op2 : CmpOp) (a b c : Me) : (ev C (.chain op1 op2 a b c)).l ℓ h = ((((ev C a).v ℓ h).bind fun x h => ((ev C b).v ℓ h).bind fun y h => (unBl (cmpW op1 x y h)).bind fun k h => ifR k (((ev C c).v ℓ h).bind fun z h => cmpW op2 y z h) (.ok (.bl false) h)) : R W).bind fun w h => seqR h w := by rfl
@[simp] theorem o_chain (op1 op2 : CmpOp) (a b c : Me) : (ev C (.chain op1 op2 a b c)).opd ℓ h = ((((ev C a).v ℓ h).bind fun x h => ((ev C b).v ℓ h).bind fun y h => (unBl (cmpW op1 x y h)).bind fun k h => ifR k (((ev C c).v ℓ h).bind fun z h => cmpW op2 y z h) (.ok (.bl false) h)) : R W).bind fun w h => .ok (.inr w) h := by rfl
@[simp] theorem v_ife (c a b : Me) : (ev C (.ife c a b)).v ℓ h = (((ev C c).t ℓ h).bind fun k h => ifR k ((ev C a).v ℓ h) ((ev C b).v ℓ h)) := by rfl
@[simp] theorem t_ife (c a b : Me) : (ev C (.ife c a b)).t ℓ h = (((ev C c).t ℓ h).bind fun k h => ifR k ((ev C a).t ℓ h) ((ev C b).t ℓ h)) := by rfl
@[simp] theorem l_ife (c a b : Me) : (ev C (.ife c a b)).l ℓ h = ((((ev C c).t ℓ h).bind fun k h => ifR k ((ev C a).v ℓ h) ((ev C b).v ℓ h)) : R W).bind fun w h => seqR h w := by rfl
@[simp] theorem o_ife (c a b : Me) : (ev C (.ife c a b)).opd ℓ h = ((((ev C c).t ℓ h).bind fun k h => ifR k ((ev C a).v ℓ h) ((ev C b).v ℓ h)) : R W).bind fun w h => .ok (.inr w) h := by rfl
@[simp] theorem v_b2And (a b : Me) : (ev C (.boolop .And (.cons a (.cons b .nil)))).v ℓ h = (((ev C a).v ℓ h).bind fun w h => (truR h w).bind fun k h => ifR k ((ev C b).v ℓ h) (.ok w h)) := by rfl
@[simp] theorem t_b2And (a b : Me) : (ev C (.boolop .And (.cons a (.cons b .nil)))).t ℓ h = (((ev C a).t ℓ h).bind fun k h => ifR k ((ev C b).t ℓ h) (.ok false h)) := by rfl
@[simp] theorem l_b2And (a b : Me) : (ev C (.boolop .And (.cons a (.cons b .nil)))).l ℓ h = ((((ev C a).v ℓ h).bind fun w h => (truR h w).bind fun k h => ifR k ((ev C b).v ℓ h) (.ok w h)) : R W).bind fun w h => seqR h w := by rfl
@[simp] theorem o_b2And (a b : Me) : (ev C (.boolop .And (.cons a (.cons b .nil)))).opd ℓ h = ((((ev C a).v ℓ h).bind fun w h => (truR h w).bind fun k h => ifR k ((ev C b).v ℓ h) (.ok w h)) : R W).bind fun w h => .ok (.inr w) h := by rfl
@[simp] theorem v_b3And (a b d : Me) (es : Mes) : (ev C (.boolop .And (.cons a (.cons b (.cons d es))))).v ℓ h = (((ev C a).v ℓ h).bind fun w h => (truR h w).bind fun k h => ifR k ((ev C (.boolop .And (.cons b (.cons d es)))).v ℓ h) (.ok w h)) := by rfl
@[simp] theorem t_b3And (a b d : Me) (es : Mes) : (ev C (.boolop .And (.cons a (.cons b (.cons d es))))).t ℓ h = (((ev C a).t ℓ h).bind fun k h => ifR k ((ev C (.boolop .And (.cons b (.cons d es)))).t ℓ h) (.ok false h)) := by rfl
@[simp] theorem l_b3And (a b d : Me) (es : Mes) : (ev C (.boolop .And (.cons a (.cons b (.cons d es))))).l ℓ h = ((((ev C a).v ℓ h).bind fun w h => (truR h w).bind fun k h => ifR k ((ev C (.boolop .And (.cons b (.cons d es)))).v ℓ h) (.ok w h)) : R W).bind fun w h => seqR h w := by rfl
@[simp] theorem o_b3And (a b d : Me) (es : Mes) : (ev C (.boolop .And (.cons a (.cons b (.cons d es))))).opd ℓ h = ((((ev C a).v ℓ h).bind fun w h => (truR h w).bind fun k h => ifR k ((ev C (.boolop .And (.cons b (.cons d es)))).v ℓ h) (.ok w h)) : R W).bind fun w h => .ok (.inr w) h := by rfl
@[simp] theorem v_b2Or (a b : Me) : (ev C (.boolop .Or (.cons a (.cons b .nil)))).v ℓ h = (((ev C a).v ℓ h).bind fun w h => (truR h w).bind fun k h => ifR k (.ok w h) ((ev C b).v ℓ h)) := by rfl
@[simp] theorem t_b2Or (a b : Me) : (ev C (.boolop .Or (.cons a (.cons b .nil)))).t ℓ h = (((ev C a).t ℓ h).bind fun k h => ifR k (.ok true h) ((ev C b).t ℓ h)) := by rfl
@[simp] theorem l_b2Or (a b : Me) : (ev C (.boolop .Or (.cons a (.cons b .nil)))).l ℓ h = ((((ev C a).v ℓ h).bind fun w h => (truR h w).bind fun k h => ifR k (.ok w h) ((ev C b).v ℓ h)) : R W).bind fun w h => seqR h w := by rfl
@[simp] theorem o_b2Or (a b : Me) : (ev C (.boolop .Or (.cons a (.cons b .nil)))).opd ℓ h = ((((ev C a).v ℓ h).bind fun w h => (truR h w).bind fun k h => ifR k (.ok w h) ((ev C b).v ℓ h)) : R W).bind fun w h => .ok (.inr w) h := by rfl
@[simp] theorem v_b3Or (a b d : Me) (es : Mes) : (ev C (.boolop .Or (.cons a (.cons b (.cons d es))))).v ℓ h = (((ev C a).v ℓ h).bind fun w h => (truR h w).bind fun k h => ifR k (.ok w h) ((ev C (.boolop .Or (.cons b (.cons d es)))).v ℓ h)) := by rfl
@[simp] theorem t_b3Or (a b d : Me) (es : Mes) : (ev C (.boolop .Or (.cons a (.cons b (.cons d es))))).t ℓ h = (((ev C a).t ℓ h).bind fun k h => ifR k (.ok true h) ((ev C (.boolop .Or (.cons b (.cons d es)))).t ℓ h)) := by rfl
@[simp] theorem l_b3Or (a b d : Me) (es : Mes) : (ev C (.boolop .Or (.cons a (.cons b (.cons d es))))).l ℓ h = ((((ev C a).v ℓ h).bind fun w h => (truR h w).bind fun k h => ifR k (.ok w h) ((ev C (.boolop .Or (.cons b (.cons d es)))).v ℓ h)) : R W).bind fun w h => seqR h w := by rfl
@[simp] theorem o_b3Or (a b d : Me) (es : Mes) : (ev C (.boolop .Or (.cons a (.cons b (.cons d es))))).opd ℓ h = ((((ev C a).v ℓ h).bind fun w h => (truR h w).bind fun k h => ifR k (.ok w h) ((ev C (.boolop .Or (.cons b (.cons d es)))).v ℓ h)) : R W).bind fun w h => .ok (.inr w) h := by rfl
@[simp] theorem v_k_len (e : Me) : (ev C (.blt "len" (.cons e .nil))).v ℓ h = (((ev C e).opd ℓ h).bind fun x h => lenO x h) := by rfl
@[simp] theorem t_k_len (e : Me) : (ev C (.blt "len" (.cons e .nil))).t ℓ h = (((((ev C e).opd ℓ h).bind fun x h => lenO x h) : R W).bind fun w h => truR h w) := by rfl
@[simp] theorem l_k_len (e : Me) : (ev C (.blt "len" (.cons e .nil))).l ℓ h = ((((ev C e).opd ℓ h).bind fun x h => lenO x h) : R W).bind fun w h => seqR h w := by rfl
@[simp] theorem o_k_len (e : Me) : (ev C (.blt "len" (.cons e .nil))).opd ℓ h = ((((ev C e).opd ℓ h).bind fun x h => lenO x h) : R W).bind fun w h => .ok (.inr w) h := by rfl
@[simp] theorem v_k_repr (e : Me) : (ev C (.blt "repr" (.cons e .nil))).v ℓ h = (((ev C e).opd ℓ h).bind fun x h => reprO h x) := by rfl
@[simp] theorem t_k_repr (e : Me) : (ev C (.blt "repr" (.cons e .nil))).t ℓ h = (((((ev C e).opd ℓ h).bind fun x h => reprO h x) : R W).bind fun w h => truR h w) := by rfl
@[simp] theorem l_k_repr (e : Me) : (ev C (.blt "repr" (.cons e .nil))).l ℓ h = ((((ev C e).opd ℓ h).bind fun x h => reprO h x) : R W).bind fun w h => seqR h w := by rfl
@[simp] theorem o_k_repr (e : Me) : (ev C (.blt "repr" (.cons e .nil))).opd ℓ h = ((((ev C e).opd ℓ h).bind fun x h => reprO h x) : R W).bind fun w h => .ok (.inr w) h := by rfl
@[simp] theorem v_k_abs (e : Me) : (ev C (.blt "abs" (.cons e .nil))).v ℓ h = (((ev C e).v ℓ h).bind fun w h => bltV "abs" [w] h) := by rfl
@[simp] theorem t_k_abs (e : Me) : (ev C (.blt "abs" (.cons e .nil))).t ℓ h = (((((ev C e).v ℓ h).bind fun w h => bltV "abs" [w] h) : R W).bind fun w h => truR h w) := by rfl
@[simp] theorem l_k_abs (e : Me) : (ev C (.blt "abs" (.cons e .nil))).l ℓ h = ((((ev C e).v ℓ h).bind fun w h => bltV "abs" [w] h) : R W).bind fun w h => seqR h w := by rfl
@[simp] theorem o_k_abs (e : Me) : (ev C (.blt "abs" (.cons e .nil))).opd ℓ h = ((((ev C e).v ℓ h).bind fun w h => bltV "abs" [w] h) : R W).bind fun w h => .ok (.inr w) h := by rfl
@[simp] theorem v_k_tuple (e : Me) : (ev C (.blt "tuple" (.cons e .nil))).v ℓ h = (((ev C e).l ℓ h).bind fun ws h => .ok (.tup ws) h) := by rfl
@[simp] theorem t_k_tuple (e : Me) : (ev C (.blt "tuple" (.cons e .nil))).t ℓ h = (((((ev C e).l ℓ h).bind fun ws h => .ok (.tup ws) h) : R W).bind fun w h => truR h w) := by rfl
@[simp] theorem l_k_tuple (e : Me) : (ev C (.blt "tuple" (.cons e .nil))).l ℓ h = ((((ev C e).l ℓ h).bind fun ws h => .ok (.tup ws) h) : R W).bind fun w h => seqR h w := by rfl
@[simp] theorem o_k_tuple (e : Me) : (ev C (.blt "tuple" (.cons e .nil))).opd ℓ h = ((((ev C e).l ℓ h).bind fun ws h => .ok (.tup ws) h) : R W).bind fun w h => .ok (.inr w) h := by rfl
@[simp] theorem v_k_all (e : Me) : (ev C (.blt "all" (.cons e .nil))).v ℓ h = (((ev C e).opd ℓ h).bind fun x h => (lsqO h x).bind fun ws h => bltL "all" ws h) := by rfl
@[simp] theorem t_k_all (e : Me) : (ev C (.blt "all" (.cons e .nil))).t ℓ h = (((((ev C e).opd ℓ h).bind fun x h => (lsqO h x).bind fun ws h => bltL "all" ws h) : R W).bind fun w h => truR h w) := by rfl
@[simp] theorem l_k_all (e : Me) : (ev C (.blt "all" (.cons e .nil))).l ℓ h = ((((ev C e).opd ℓ h).bind fun x h => (lsqO h x).bind fun ws h => bltL "all" ws h) : R W).bind fun w h => seqR h w := by rfl
@[simp] theorem o_k_all (e : Me) : (ev C (.blt "all" (.cons e .nil))).opd ℓ h = ((((ev C e).opd ℓ h).bind fun x h => (lsqO h x).bind fun ws h => bltL "all" ws h) : R W).bind fun w h => .ok (.inr w) h := by rfl
@[simp] theorem v_k_any (e : Me) : (ev C (.blt "any" (.cons e .nil))).v ℓ h = (((ev C e).opd ℓ h).bind fun x h => (lsqO h x).bind fun ws h => bltL "any" ws h) := by rfl
@[simp] theorem t_k_any (e : Me) : (ev C (.blt "any" (.cons e .nil))).t ℓ h = (((((ev C e).opd ℓ h).bind fun x h => (lsqO h x).bind fun ws h => bltL "any" ws h) : R W).bind fun w h => truR h w) := by rfl
@[simp] theorem l_k_any (e : Me) : (ev C (.blt "any" (.cons e .nil))).l ℓ h = ((((ev C e).opd ℓ h).bind fun x h => (lsqO h x).bind fun ws h => bltL "any" ws h) : R W).bind fun w h => seqR h w := by rfl
@[simp] theorem o_k_any (e : Me) : (ev C (.blt "any" (.cons e .nil))).opd ℓ h = ((((ev C e).opd ℓ h).bind fun x h => (lsqO h x).bind fun ws h => bltL "any" ws h) : R W).bind fun w h => .ok (.inr w) h := by rfl
@[simp] theorem v_k_sum (e : Me) : (ev C (.blt "sum" (.cons e .nil))).v ℓ h = (((ev C e).opd ℓ h).bind fun x h => (lsqO h x).bind fun ws h => bltL "sum" ws h) := by rfl
@[simp] theorem t_k_sum (e : Me) : (ev C (.blt "sum" (.cons e .nil))).t ℓ h = (((((ev C e).opd ℓ h).bind fun x h => (lsqO h x).bind fun ws h => bltL "sum" ws h) : R W).bind fun w h => truR h w) := by rfl
@[simp] theorem l_k_sum (e : Me) : (ev C (.blt "sum" (.cons e .nil))).l ℓ h = ((((ev C e).opd ℓ h).bind fun x h => (lsqO h x).bind fun ws h => bltL "sum" ws h) : R W).bind fun w h => seqR h w := by rfl
@[simp] theorem o_k_sum (e : Me) : (ev C (.blt "sum" (.cons e .nil))).opd ℓ h = ((((ev C e).opd ℓ h).bind fun x h => (lsqO h x).bind fun ws h => bltL "sum" ws h) : R W).bind fun w h => .ok (.inr w) h := by rfl
@[simp] theorem v_k_list (e : Me) : (ev C (.blt "list" (.cons e .nil))).v ℓ h = (((ev C e).l ℓ h) : R (List W)).bind fun ws h => alloc (.lst ws) h := by rfl
@[simp] theorem t_k_list (e : Me) : (ev C (.blt "list" (.cons e .nil))).t ℓ h = (((ev C e).l ℓ h) : R (List W)).bind fun ws h => .ok (!ws.isEmpty) h := by rfl
@[simp] theorem l_k_list (e : Me) : (ev C (.blt "list" (.cons e .nil))).l ℓ h = ((ev C e).l ℓ h) := by rfl
@[simp] theorem o_k_list (e : Me) : (ev C (.blt "list" (.cons e .nil))).opd ℓ h = (((ev C e).l ℓ h) : R (List W)).bind fun ws h => .ok (.inl ws) h := by rfl
@[simp] theorem v_k_max (a b : Me) : (ev C (.blt "max" (.cons a (.cons b .nil)))).v ℓ h = (((ev C a).v ℓ h).bind fun x h => ((ev C b).v ℓ h).bind fun y h => bltV "max" [x, y] h) := by rfl
@[simp] theorem t_k_max (a b : Me) : (ev C (.blt "max" (.cons a (.cons b .nil)))).t ℓ h = (((((ev C a).v ℓ h).bind fun x h => ((ev C b).v ℓ h).bind fun y h => bltV "max" [x, y] h) : R W).bind fun w h => truR h w) := by rfl
@[simp] theorem l_k_max (a b : Me) : (ev C (.blt "max" (.cons a (.cons b .nil)))).l ℓ h = ((((ev C a).v ℓ h).bind fun x h => ((ev C b).v ℓ h).bind fun y h => bltV "max" [x, y] h) : R W).bind fun w h => seqR h w := by rfl
@[simp] theorem o_k_max (a b : Me) : (ev C (.blt "max" (.cons a (.cons b .nil)))).opd ℓ h = ((((ev C a).v ℓ h).bind fun x h => ((ev C b).v ℓ h).bind fun y h => bltV "max" [x, y] h) : R W).bind fun w h => .ok (.inr w) h := by rfl
@[simp] theorem v_k_min (a b : Me) : (ev C (.blt "min" (.cons a (.cons b .nil)))).v ℓ h = (((ev C a).v ℓ h).bind fun x h => ((ev C b).v ℓ h).bind fun y h => bltV "min" [x, y] h) := by rfl
@[simp] theorem t_k_min (a b : Me) : (ev C (.blt "min" (.cons a (.cons b .nil)))).t ℓ h = (((((ev C a).v ℓ h).bind fun x h => ((ev C b).v ℓ h).bind fun y h => bltV "min" [x, y] h) : R W).bind fun w h => truR h w) := by rfl
@[simp] theorem l_k_min (a b : Me) : (ev C (.blt "min" (.cons a (.cons b .nil)))).l ℓ h = ((((ev C a).v ℓ h).bind fun x h => ((ev C b).v ℓ h).bind fun y h => bltV "min" [x, y] h) : R W).bind fun w h => seqR h w := by rfl
@[simp] theorem o_k_min (a b : Me) : (ev C (.blt "min" (.cons a (.cons b .nil)))).opd ℓ h = ((((ev C a).v ℓ h).bind fun x h => ((ev C b).v ℓ h).bind fun y h => bltV "min" [x, y] h) : R W).bind fun w h => .ok (.inr w) h := by rfl
@[simp] theorem v_m_join (a e : Me) : (ev C (.bm "join" a (.cons e .nil))).v ℓ h = (((ev C a).v ℓ h).bind fun x h => strR x fun a => ((ev C e).l ℓ h).bind fun ws h => joinR a ws h) := by rfl
@[simp] theorem t_m_join (a e : Me) : (ev C (.bm "join" a (.cons e .nil))).t ℓ h = (((((ev C a).v ℓ h).bind fun x h => strR x fun a => ((ev C e).l ℓ h).bind fun ws h => joinR a ws h) : R W).bind fun w h => truR h w) := by rfl
@[simp] theorem l_m_join (a e : Me) : (ev C (.bm "join" a (.cons e .nil))).l ℓ h = ((((ev C a).v ℓ h).bind fun x h => strR x fun a => ((ev C e).l ℓ h).bind fun ws h => joinR a ws h) : R W).bind fun w h => seqR h w := by rfl
@[simp] theorem o_m_join (a e : Me) : (ev C (.bm "join" a (.cons e .nil))).opd ℓ h = ((((ev C a).v ℓ h).bind fun x h => strR x fun a => ((ev C e).l ℓ h).bind fun ws h => joinR a ws h) : R W).bind fun w h => .ok (.inr w) h := by rfl
@[simp] theorem v_m_append (a e : Me) : (ev C (.bm "append" a (.cons e .nil))).v ℓ h = (((ev C a).v ℓ h).bind fun x h => chk (isLst h x) (((ev C e).v ℓ h).bind fun w h => bmV "append" x [w] h)) := by rfl
@[simp] theorem t_m_append (a e : Me) : (ev C (.bm "append" a (.cons e .nil))).t ℓ h = (((((ev C a).v ℓ h).bind fun x h => chk (isLst h x) (((ev C e).v ℓ h).bind fun w h => bmV "append" x [w] h)) : R W).bind fun w h => truR h w) := by rfl
@[simp] theorem l_m_append (a e : Me) : (ev C (.bm "append" a (.cons e .nil))).l ℓ h = ((((ev C a).v ℓ h).bind fun x h => chk (isLst h x) (((ev C e).v ℓ h).bind fun w h => bmV "append" x [w] h)) : R W).bind fun w h => seqR h w := by rfl
@[simp] theorem o_m_append (a e : Me) : (ev C (.bm "append" a (.cons e .nil))).opd ℓ h = ((((ev C a).v ℓ h).bind fun x h => chk (isLst h x) (((ev C e).v ℓ h).bind fun w h => bmV "append" x [w] h)) : R W).bind fun w h => .ok (.inr w) h := by rfl
@[simp] theorem evs_nil : evs C .nil ℓ h = .ok [] h := by rfl
@[simp] theorem evs_cons (e : Me) (es : Mes) : evs C (.cons e es) ℓ h = ((ev C e).v ℓ h).bind fun w h => (evs C es ℓ h).bind fun ws h => .ok (w :: ws) h := by rfl
def keyR {α : Type} (x : W) (f : Key → R α) (_t : Tag f := .mk) : R α := match keyW x with
  | some k => f k
  | none => .stuck
@[simp] theorem keyR_s {α : Type} (x : Str) (f : Key → R α) : keyR (.str x) f = f (.inr x) := rfl
@[simp] theorem keyR_i {α : Type} (x : Int) (f : Key → R α) : keyR (.int x) f = f (.inl x) := rfl
@[simp] theorem evd_nil : evd C .nil ℓ h = .ok [] h := by rfl
@[simp] theorem evd_cons (k v : Me) (r : Mks) : evd C (.cons k v r) ℓ h = ((ev C k).v ℓ h).bind fun x h => ((ev C v).v ℓ h).bind fun y h => keyR x fun k => (evd C r ℓ h).bind fun kvs h => .ok ((k, y) :: kvs) h := by rfl
@[simp] theorem evo_none : evo C .none ℓ h = .ok none h := by rfl
@[simp] theorem evo_some (e : Me) : evo C (.some e) ℓ h = ((ev C e).v ℓ h).bind fun w h => optI w h := by rfl
@[simp] theorem evf_none : evf C .none ℓ h = .ok true h := by rfl
@[simp] theorem evf_some (e : Me) : evf C (.some e) ℓ h = (ev C e).t ℓ h := by rfl
@[simp] theorem evt_name (i : Nat) (w : W) : evt C (.name i) w ℓ h = .ok (ℓ.set i (some w)) h := by rfl
@[simp] theorem evt_tup (ts : Mts) (w : W) : evt C (.tup ts) w ℓ h = (ofO (seqW h w) h).bind fun ws h => evts C ts ws ℓ h := by
  show (match seqW h w with
    | some ws => evts C ts ws ℓ h
    | none => .stuck) = _
  cases seqW h w <;> rfl
@[simp] theorem evt_sub (a i : Me) (w : W) : evt C (.sub a i) w ℓ h = ((ev C a).v ℓ h).bind fun x h => ((ev C i).v ℓ h).bind fun y h => (setSub x y w h).bind fun _ h => .ok ℓ h := by rfl
@[simp] theorem evts_nil : evts C .nil [] ℓ h = .ok ℓ h := by rfl
@[simp] theorem evts_cons (t : Mt) (ts : Mts) (w : W) (ws : List W) : evts C (.cons t ts) (w :: ws) ℓ h = (noX (evt C t w ℓ h)).bind fun ℓ h => evts C ts ws ℓ h := by rfl
@[simp] theorem evi_val (e : Me) : evi C (.val e) ℓ h = ((ev C e).opd ℓ h).bind fun x h => seqO true h x := by rfl
@[simp] theorem evi_range (es : Mes) : evi C (.range es) ℓ h = (evs C es ℓ h).bind fun ws h => rngM ws h := by rfl
@[simp] theorem evi_zip (a b : Me) : evi C (.zip a b) ℓ h = ((ev C a).opd ℓ h).bind fun x h => ((ev C b).opd ℓ h).bind fun y h => chk (tupO x == tupO y) ((seqO false h x).bind fun xs h => (seqO false h y).bind fun ys h => .ok (zipW xs.1 ys.1, xs.2 ++ ys.2) h) := by rfl
@[simp] theorem evi_enum (a : Me) : evi C (.enum a) ℓ h = ((ev C a).opd ℓ h).bind fun x h => chk (!tupO x) ((seqO false h x).bind fun xs h => .ok (enumW 0 xs.1, xs.2) h) := by rfl
end
section
variable (C : Cc) (ℓ : Lo) (h : List O)
@[simp] theorem s_asg_ (t : Mt) (e : Me) : evS C (.asg t e) ℓ h = liftE ℓ ((ev C.cn e).v ℓ h) fun w h => liftE ℓ (noX (evt C.cn t w ℓ h)) fun ℓ h => .ok .nx ℓ h := by rfl
@[simp] theorem s_par_ (i j : Nat) (a b : Me) : evS C (.par i j a b) ℓ h = liftE ℓ ((ev C.cn a).v ℓ h) fun x h => liftE ℓ ((ev C.cn b).v ℓ h) fun y h => .ok .nx ((ℓ.set i (some x)).set j (some y)) h := by rfl
@[simp] theorem s_expr_ (e : Me) : evS C (.expr e) ℓ h = liftE ℓ ((ev C.cn e).v ℓ h) fun _ h => .ok .nx ℓ h := by rfl
@[simp] theorem s_ret_ (e : Me) : evS C (.ret e) ℓ h = liftE ℓ ((ev C.cn e).v ℓ h) fun w h => .ok (.rt w) ℓ h := by rfl
@[simp] theorem s_retN_ : evS C .retN ℓ h = .ok (.rt .non) ℓ h := by rfl
@[simp] theorem s_pass_ : evS C .pass ℓ h = .ok .nx ℓ h := by rfl
@[simp] theorem s_brk_ : evS C .brk ℓ h = .ok .bk ℓ h := by rfl
@[simp] theorem s_cont_ : evS C .cont ℓ h = .ok .ct ℓ h := by rfl
@[simp] theorem s_ife_ (c : Me) (a b : Mss) : evS C (.ife c a b) ℓ h = liftE ℓ ((ev C.cn c).t ℓ h) fun k h => ifS k (evSs C a ℓ h) (evSs C b ℓ h) := by rfl
@[simp] theorem s_for_ (t : Mt) (s : Mi) (b : Mss) : evS C (.for t s b) ℓ h = liftE ℓ (evi C.cn s ℓ h) fun r h => forL (forBody C t b) r.2 r.1 ℓ h := by rfl
@[simp] theorem s_while_ (c : Me) (b : Mss) : evS C (.while c b) ℓ h = whileL (ev C.cn c).t (evSs C b) C.cn.fuel ℓ h := by rfl
@[simp] theorem s_raise_ (c f : Str) (e : Me) : evS C (.raise c f e) ℓ h = liftE ℓ ((ev C.cn e).v ℓ h) fun w h => .exc ⟨c, [(f, w)]⟩ ℓ h := by rfl
def tryS (C : Cc) (hs : List Hd) (r : RS) : RS := match r with
    | .ok f ℓ h => .ok f ℓ h
    | .exc x ℓ h => catchS C x hs ℓ h
    | .stuck => .stuck
@[simp] theorem tryS_ok (hs : List Hd) (f : Fl) : tryS C hs (.ok f ℓ h) = .ok f ℓ h := rfl
@[simp] theorem tryS_exc (hs : List Hd) (x : Exn) : tryS C hs (.exc x ℓ h) = catchS C x hs ℓ h := rfl
@[simp] theorem s_try_ (b : Mss) (hs : List Hd) : evS C (.try b hs) ℓ h = tryS C hs (evSs C b ℓ h) := by rfl
theorem catch_yes {x : Exn} {d : Hd} {ds : List Hd} {ws : List W} (e : C.isA x.cls d.cls = some true) (e2 : hxW C x d.items = some ws) (hl : ws.length ≤ sizeLine) : catchS C x (d :: ds) ℓ h = .ok (.rt (.slst ws)) ℓ h := by
  unfold catchS
  rw [e]
  dsimp only
  rw [e2]
  dsimp only
  unfold chkS
  rw [decide_eq_true hl, if_pos rfl]
theorem catch_no {x : Exn} {d : Hd} {ds : List Hd} (e : C.isA x.cls d.cls = some false) : catchS C x (d :: ds) ℓ h = catchS C x ds ℓ h := by
  show (match C.isA x.cls d.cls with
    | some true => match hxW C x d.items with
      | some ws => chkS (decide (ws.length ≤ sizeLine)) (.ok (.rt (.slst ws)) ℓ h)
      | none => .stuck
    | some false => catchS C x ds ℓ h
    | none => .stuck) = _
  rw [e]
@[simp] theorem ss_nil : evSs C .nil ℓ h = .ok .nx ℓ h := by rfl
@[simp] theorem ss_one (s : Ms) : evSs C (.cons s .nil) ℓ h = evS C s ℓ h := by rfl
@[simp] theorem ss_cons (s s2 : Ms) (ss : Mss) : evSs C (.cons s (.cons s2 ss)) ℓ h = seqS (evS C s ℓ h) (evSs C (.cons s2 ss)) := by rfl
end
/-! ### operations on known values -/
section
variable (h : List O)
@[simp] theorem ofO_some {α : Type} (a : α) : ofO (some a) h = .ok a h := rfl
@[simp] theorem getL_0 (a : Option W) (r : Lo) : getL (a :: r) 0 = a := by cases a <;> rfl
@[simp] theorem getL_s (a : Option W) (r : Lo) (i : Nat) : getL (a :: r) (i + 1) = getL r i := rfl
@[simp] theorem b_add (i j : Int) : binW .Add (.int i) (.int j) h = .ok (.int (i + j)) h := rfl
@[simp] theorem b_addS (i j : Str) : binW .Add (.str i) (.str j) h = chk (decide (i.length + j.length ≤ sizeLine)) (.ok (.str (i ++ j)) h) := rfl
@[simp] theorem b_addL (a b : List W) : binW .Add (.slst a) (.slst b) h = chk (decide (a.length + b.length ≤ sizeLine)) (.ok (.slst (a ++ b)) h) := rfl
@[simp] theorem b_addT (a b : List W) : binW .Add (.tup a) (.tup b) h = chk (decide (a.length + b.length ≤ sizeLine)) (.ok (.tup (a ++ b)) h) := rfl
@[simp] theorem b_sub (i j : Int) : binW .Sub (.int i) (.int j) h = .ok (.int (i - j)) h := rfl
@[simp] theorem b_mul (i j : Int) : binW .Mult (.int i) (.int j) h = chk (mulOk i j) (.ok (.int (i * j)) h) := rfl
@[simp] theorem b_div (i j : Int) : binW .FloorDiv (.int i) (.int j) h = chk (divOk j) (.ok (.int (i.fdiv j)) h) := rfl
@[simp] theorem b_mod (i j : Int) : binW .Mod (.int i) (.int j) h = chk (decide (j ≠ 0)) (.ok (.int (i.fmod j)) h) := rfl
@[simp] theorem b_pow (i j : Int) : binW .Pow (.int i) (.int j) h = chk (powOk i j) (.ok (.int (i ^ j.toNat)) h) := rfl
@[simp] theorem tr_bl (b : Bool) : truR h (.bl b) = .ok b h := rfl
@[simp] theorem tr_non : truR h .non = .ok false h := rfl
@[simp] theorem tr_int (i : Int) : truR h (.int i) = .ok (i != 0) h := rfl
@[simp] theorem sub_tup (ws : List W) (i : Int) : subW (.tup ws) (.int i) h = ofO (atI ws i) h := by
  show (match atI ws i with
      | some w => R.ok w h
      | none => .stuck) = _
  cases atI ws i <;> rfl
@[simp] theorem sub_slst (ws : List W) (i : Int) : subW (.slst ws) (.int i) h = ofO (atI ws i) h := by
  show (match atI ws i with
      | some w => R.ok w h
      | none => .stuck) = _
  cases atI ws i <;> rfl
theorem sub_ref {n : Nat} {ws : List W} (e : h[n]? = some (.lst ws)) (i : Int) : subW (.ref n) (.int i) h = ofO (atI ws i) h := by
  show (match seqW h (.ref n) with
    | some ws => match atI ws i with
      | some w => R.ok w h
      | none => .stuck
    | none => .stuck) = _
  unfold seqW
  dsimp only
  rw [e]
  dsimp only
  cases atI ws i <;> rfl
theorem set_ref {n j : Nat} {ws : List W} {k : Int} {w : W} (e : h[n]? = some (.lst ws)) (hj : ixN ws.length k = some j) : setSub (.ref n) (.int k) w h = .ok () (h.set n (.lst (ws.set j w))) := by
  unfold setSub
  dsimp only
  rw [e]
  dsimp only
  rw [hj]
theorem chk_of {α : Type} {b : Bool} {r : R α} (e : b = true) : chk b r = r := by rw [e]; rfl
@[simp] theorem cw_lt (i j : Int) : cmpW .Lt (.int i) (.int j) h = .ok (.bl (decide (i < j))) h := rfl
@[simp] theorem cw_le (i j : Int) : cmpW .LtE (.int i) (.int j) h = .ok (.bl (decide (i ≤ j))) h := rfl
@[simp] theorem cw_gt (i j : Int) : cmpW .Gt (.int i) (.int j) h = .ok (.bl (decide (j < i))) h := rfl
@[simp] theorem cw_ge (i j : Int) : cmpW .GtE (.int i) (.int j) h = .ok (.bl (decide (j ≤ i))) h := rfl
@[simp] theorem co_lt (i j : Int) : cmpO .Lt (.inr (.int i)) (.inr (.int j)) h = .ok (.bl (decide (i < j))) h := rfl
@[simp] theorem co_le (i j : Int) : cmpO .LtE (.inr (.int i)) (.inr (.int j)) h = .ok (.bl (decide (i ≤ j))) h := rfl
@[simp] theorem co_gt (i j : Int) : cmpO .Gt (.inr (.int i)) (.inr (.int j)) h = .ok (.bl (decide (j < i))) h := rfl
@[simp] theorem co_ge (i j : Int) : cmpO .GtE (.inr (.int i)) (.inr (.int j)) h = .ok (.bl (decide (j ≤ i))) h := rfl
@[simp] theorem co_eq (a b : Opd) : cmpO .Eq a b h = oB (eqO h a b) h := rfl
@[simp] theorem co_ne (a b : Opd) : cmpO .NotEq a b h = oB ((eqO h a b).map (!·)) h := rfl
@[simp] theorem co_in (a b : Opd) : cmpO .In a b h = oB (inO h a b) h := rfl
@[simp] theorem co_nin (a b : Opd) : cmpO .NotIn a b h = oB ((inO h a b).map (!·)) h := rfl
@[simp] theorem oB_some (b : Bool) : oB (some b) h = .ok (.bl b) h := rfl
@[simp] theorem in_str (a b : Str) : inO h (.inr (.str a)) (.inr (.str b)) = some (!(Builtin.Str.occurrences b a 0 b.length 1).isEmpty) := rfl
@[simp] theorem eq_ii (i j : Int) : eqO h (.inr (.int i)) (.inr (.int j)) = some (i == j) := rfl
@[simp] theorem eq_ss (i j : Str) : eqO h (.inr (.str i)) (.inr (.str j)) = some (i == j) := rfl
@[simp] theorem so_l (st : Bool) (ws : List W) : seqO st h (.inl ws) = .ok (ws, []) h := rfl
@[simp] theorem so_t (st : Bool) (ws : List W) : seqO st h (.inr (.tup ws)) = .ok (ws, []) h := rfl
@[simp] theorem so_sl (st : Bool) (ws : List W) : seqO st h (.inr (.slst ws)) = .ok (ws, []) h := rfl
@[simp] theorem so_s (x : Str) : seqO true h (.inr (.str x)) = .ok (chars x, []) h := rfl
@[simp] theorem lsq_l (ws : List W) : lsqO h (.inl ws) = .ok ws h := rfl
@[simp] theorem lsq_sl (ws : List W) : lsqO h (.inr (.slst ws)) = .ok ws h := rfl
@[simp] theorem rng_1 (j : Int) : rngM [.int j] h = chk (rngOk j) (.ok (rngL 0 j.toNat, []) h) := rfl
@[simp] theorem rng_2 (i j : Int) : rngM [.int i, .int j] h = chk (rngOk i && rngOk j) (.ok (rngL i (j - i).toNat, []) h) := rfl
@[simp] theorem len_s (z : Str) : lenW (.str z) h = chk (decide (z.length ≤ sizeLine)) (.ok (.int z.length) h) := rfl
@[simp] theorem len_t (ws : List W) : lenW (.tup ws) h = .ok (.int ws.length) h := rfl
@[simp] theorem len_sl (ws : List W) : lenW (.slst ws) h = .ok (.int ws.length) h := rfl
@[simp] theorem alloc_ (o : O) : alloc o h = .ok (.ref h.length) (h ++ [o]) := rfl
@[simp] theorem mx (i j : Int) : bltV "max" [.int i, .int j] h = .ok (.int (if j > i then j else i)) h := by rfl
@[simp] theorem mn (i j : Int) : bltV "min" [.int i, .int j] h = .ok (.int (if j < i then j else i)) h := by rfl
@[simp] theorem ab (i : Int) : bltV "abs" [.int i] h = .ok (.int (if i < 0 then -i else i)) h := by rfl
@[simp] theorem for_nil (f : W → Lo → List O → RS) (ℓ : Lo) : forL f [] [] ℓ h = .ok .nx ℓ h := rfl
theorem for_cons (f : W → Lo → List O → RS) (w : W) (ws : List W) (ℓ : Lo) : forL f [] (w :: ws) ℓ h = turnS (f w ℓ h) (forL f [] ws) := rfl
theorem while_s (c : Lo → List O → R Bool) (f : Lo → List O → RS) (n : Nat) (ℓ : Lo) : whileL c f (n + 1) ℓ h = liftE ℓ (c ℓ h) fun b h => if b = true then turnS (f ℓ h) (whileL c f n) else .ok .nx ℓ h := rfl
@[simp] theorem gcF_f (h0 : List O) (r : R W) : gcF false h0 r = r := rfl
@[simp] theorem gcF_t (h0 : List O) (r : R W) : gcF true h0 r = gcR h0 r := rfl
theorem chk_le {α : Type} {a : Nat} {r : R α} (e : a ≤ 16777216) : chk (decide (a ≤ sizeLine)) r = r := by rw [decide_eq_true (show a ≤ sizeLine from by rw [sizeLine_eq]; exact e)]; rfl
theorem chk_lt {α : Type} {a : Nat} {r : R α} (e : a < 16777216) : chk (decide (a < sizeLine)) r = r := by rw [decide_eq_true (show a < sizeLine from by rw [sizeLine_eq]; exact e)]; rfl
@[simp] theorem lc_nil (f : W → List O → R (Option W)) (n : Nat) : lcLoop f [] n [] h = .ok [] h := rfl
end
end MP

set_option maxRecDepth 100000
set_option maxHeartbeats 4000000
namespace MP
open PySem PySem.Spec PyProof.Rows L2
theorem runF_of {C : Cc} {d : FD} {ws : List W} {h : List O} (e : ws.length = d.ps.length) : runF C d ws h = gcF d.gc h (endF (evSs C d.body (startL d.N.length ws) h)) := by
  unfold runF
  rw [if_pos e]
/-! ### comprehensions and loops, once for all -/
theorem lc_step (f : W → List O → R (Option W)) (n : Nat) (w : W) (ws : List W) (h : List O) : lcLoop f [] n (w :: ws) h = (noX (f w h)).bind fun o h1 => match o with
    | some y => chk (decide (n < sizeLine)) ((lcLoop f [] (n + 1) ws h1).bind fun r h2 => .ok (y :: r) h2)
    | none => lcLoop f [] n ws h1 := rfl
/-- each item gives an item or nothing, nothing is written -/
theorem lc_filterMap {f : W → List O → R (Option W)} {g : W → Option W} {h : List O} : ∀ {ws : List W} {n : Nat}, (∀ w ∈ ws, f w h = .ok (g w) h) → n + ws.length ≤ 16777216 → lcLoop f [] n ws h = .ok (ws.filterMap g) h
  | [], n, _, _ => rfl
  | w :: ws, n, hf, hl => by
    rw [List.length_cons] at hl
    rw [lc_step, hf w List.mem_cons_self]
    have ih := fun m (hm : m + ws.length ≤ 16777216) => lc_filterMap (f := f) (g := g) (h := h) (ws := ws) (n := m) (fun w hw => hf w (List.mem_cons_of_mem _ hw)) hm
    cases e : g w with
    | none =>
      rw [List.filterMap_cons, e]
      exact ih n (by omega)
    | some y =>
      rw [List.filterMap_cons, e]
      show chk (decide (n < sizeLine)) ((lcLoop f [] (n + 1) ws h).bind fun r h2 => .ok (y :: r) h2) = _
      rw [chk_lt (by omega), ih (n + 1) (by omega)]
      rfl
theorem lc_map {f : W → List O → R (Option W)} {g : W → W} {h : List O} {ws : List W} {n : Nat} (hf : ∀ w ∈ ws, f w h = .ok (some (g w)) h) (hl : n + ws.length ≤ 16777216) : lcLoop f [] n ws h = .ok (ws.map g) h := by
  rw [lc_filterMap (g := fun w => some (g w)) hf hl]
  simp
theorem lc_mapA {α : Type} {f : W → List O → R (Option W)} {a : α → W} {g : α → W} {h : List O} {xs : List α} {n : Nat} (hf : ∀ x ∈ xs, f (a x) h = .ok (some (g x)) h) (hl : n + xs.length ≤ 16777216) : lcLoop f [] n (xs.map a) h = .ok (xs.map g) h := by
  induction xs generalizing n with
  | nil => rfl
  | cons x xs ih =>
    rw [List.length_cons] at hl
    rw [List.map_cons, lc_step, hf x List.mem_cons_self]
    show chk (decide (n < sizeLine)) ((lcLoop f [] (n + 1) (xs.map a) h).bind fun r h2 => .ok (g x :: r) h2) = _
    rw [chk_lt (by omega), ih (fun y hy => hf y (List.mem_cons_of_mem _ hy)) (by omega)]
    rfl
theorem lc_filterA {α : Type} {f : W → List O → R (Option W)} {a : α → W} {g : α → W} {p : α → Bool} {h : List O} {xs : List α} {n : Nat} (hf : ∀ x ∈ xs, f (a x) h = .ok (if p x = true then some (g x) else none) h) (hl : n + xs.length ≤ 16777216) :
    lcLoop f [] n (xs.map a) h = .ok ((xs.filter p).map g) h := by
  induction xs generalizing n with
  | nil => rfl
  | cons x xs ih =>
    rw [List.length_cons] at hl
    rw [List.map_cons, lc_step, hf x List.mem_cons_self]
    cases e : p x with
    | true =>
      rw [List.filter_cons, e, if_pos rfl, if_pos rfl]
      show chk (decide (n < sizeLine)) ((lcLoop f [] (n + 1) (xs.map a) h).bind fun r h2 => .ok (g x :: r) h2) = _
      rw [chk_lt (by omega), ih (fun y hy => hf y (List.mem_cons_of_mem _ hy)) (by omega)]
      rfl
    | false =>
      rw [List.filter_cons, e, if_neg Bool.false_ne_true, if_neg Bool.false_ne_true]
      exact ih (fun y hy => hf y (List.mem_cons_of_mem _ hy)) (by omega)
/-- draws: what each item gives is told by a property, the heap by an invariant with a counter -/
theorem lc_draw {f : W → List O → R (Option W)} {I : Nat → List O → Prop} {Y : W → Prop} : ∀ {ws : List W} {n k : Nat} {h : List O}, (∀ w ∈ ws, ∀ j h, k ≤ j → j < k + ws.length → I j h → ∃ y h', f w h = .ok (some y) h' ∧ I (j + 1) h' ∧ Y y) → n + ws.length ≤ 16777216 → I k h →
    ∃ ys h', lcLoop f [] n ws h = .ok ys h' ∧ I (k + ws.length) h' ∧ ys.length = ws.length ∧ ∀ y ∈ ys, Y y
  | [], n, k, h, _, _, hi => ⟨[], h, rfl, hi, rfl, fun _ z => nomatch z⟩
  | w :: ws, n, k, h, hf, hl, hi => by
    rw [List.length_cons] at hl
    obtain ⟨y, h1, e1, i1, y1⟩ := hf w List.mem_cons_self k h (Nat.le_refl _) (by rw [List.length_cons]; omega) hi
    obtain ⟨ys, h2, e2, i2, l2, y2⟩ := lc_draw (f := f) (I := I) (Y := Y) (ws := ws) (n := n + 1) (k := k + 1) (h := h1) (fun v hv j h a b => hf v (List.mem_cons_of_mem _ hv) j h (by omega) (by rw [List.length_cons]; omega)) (by omega) i1
    have ek : k + (ws.length + 1) = k + 1 + ws.length := by omega
    refine ⟨y :: ys, h2, ?_, by rw [List.length_cons, ek]; exact i2, by rw [List.length_cons, List.length_cons, l2], fun z hz => ?_⟩
    · rw [lc_step, e1]
      show chk (decide (n < sizeLine)) ((lcLoop f [] (n + 1) ws h1).bind fun r h2 => .ok (y :: r) h2) = _
      rw [chk_lt (by omega), e2]
      rfl
    · rcases List.mem_cons.mp hz with rfl | hz
      · exact y1
      · exact y2 z hz
/-- a loop by an invariant over the part that is walked -/
theorem for_inv {f : W → Lo → List O → RS} {I : List W → Lo → List O → Prop} : ∀ {ws pre : List W} {ℓ : Lo} {h : List O}, (∀ p w q ℓ h, pre ++ ws = p ++ w :: q → I p ℓ h → ∃ ℓ' h', f w ℓ h = .ok .nx ℓ' h' ∧ I (p ++ [w]) ℓ' h') → I pre ℓ h →
    ∃ ℓ' h', forL f [] ws ℓ h = .ok .nx ℓ' h' ∧ I (pre ++ ws) ℓ' h'
  | [], pre, ℓ, h, _, hi => ⟨ℓ, h, rfl, by rw [List.append_nil]; exact hi⟩
  | w :: ws, pre, ℓ, h, hf, hi => by
    obtain ⟨ℓ1, h1, e1, i1⟩ := hf pre w ws ℓ h rfl hi
    obtain ⟨ℓ2, h2, e2, i2⟩ := for_inv (f := f) (I := I) (ws := ws) (pre := pre ++ [w]) (ℓ := ℓ1) (h := h1) (fun p v q ℓ h e => hf p v q ℓ h (by rw [← e, List.append_assoc]; rfl)) i1
    refine ⟨ℓ2, h2, ?_, by rw [List.append_assoc] at i2; exact i2⟩
    rw [for_cons, e1, turnS_nx, e2]
/-- a loop that folds one thing, others change as they will, nothing is written -/
theorem for_fold {α β γ : Type} {f : W → Lo → List O → RS} {a : α → W} {st : β → γ → Lo} {g : β → α → β} {h : List O} : ∀ {xs : List α} {b : β} {o : γ}, (∀ x ∈ xs, ∀ b o, ∃ o', f (a x) (st b o) h = .ok .nx (st (g b x) o') h) →
    ∃ o', forL f [] (xs.map a) (st b o) h = .ok .nx (st (xs.foldl g b) o') h
  | [], b, o, _ => ⟨o, rfl⟩
  | x :: xs, b, o, hf => by
    obtain ⟨o1, e1⟩ := hf x List.mem_cons_self b o
    obtain ⟨o2, e2⟩ := for_fold (f := f) (a := a) (st := st) (g := g) (h := h) (xs := xs) (b := g b x) (o := o1) fun y hy => hf y (List.mem_cons_of_mem _ hy)
    refine ⟨o2, ?_⟩
    rw [List.map_cons, for_cons, e1, turnS_nx, e2]
    rfl
theorem ints_of {P : Int → Prop} : ∀ {ys : List W}, (∀ y ∈ ys, ∃ i, y = .int i ∧ P i) → ∃ ns : List Int, ys = ns.map W.int ∧ ∀ n ∈ ns, P n
  | [], _ => ⟨[], rfl, fun _ h => nomatch h⟩
  | y :: ys, h => by
    obtain ⟨i, rfl, p⟩ := h y List.mem_cons_self
    obtain ⟨ns, rfl, q⟩ := ints_of (ys := ys) fun z hz => h z (List.mem_cons_of_mem _ hz)
    refine ⟨i :: ns, rfl, fun n hn => ?_⟩
    rcases List.mem_cons.mp hn with rfl | hn
    · exact p
    · exact q n hn
/-! ### the end of a call -/
theorem gcR_app {h o : List O} {w w' : W} (e : dzW h.length (dzR (h ++ o) h.length gcDeep) w = some w') : gcR h (.ok w (h ++ o)) = .ok w' h := by
  unfold gcR
  dsimp only
  rw [if_pos (show gcOk h (h ++ o) from ⟨by rw [List.length_append]; omega, fun i x hi ex => .inl (by rw [List.getElem?_append_left hi] at ex; exact ex)⟩), e]
  dsimp only
  rw [List.take_left']
  rfl

/-! ### data -/
theorem mapM_pure {f : W → Option PyData} {α : Type} {a : α → W} {d : α → PyData} (hf : ∀ x, f (a x) = some (d x)) : ∀ xs : List α, (xs.map a).mapM f = some (xs.map d)
  | [] => rfl
  | x :: xs => by
    rw [List.map_cons, List.mapM_cons, hf, mapM_pure hf xs]
    rfl
theorem toD_int (h : List O) (n : Nat) (i : Int) : toD h n (.int i) = some (.int i) := by cases n <;> rfl
theorem toD_str (h : List O) (n : Nat) (i : Str) : toD h n (.str i) = some (.str i) := by cases n <;> rfl
theorem toD_bl (h : List O) (n : Nat) (i : Bool) : toD h n (.bl i) = some (.bool i) := by cases n <;> rfl
theorem toD_non (h : List O) (n : Nat) : toD h n .non = some .none := by cases n <;> rfl
theorem toD_tup (h : List O) (n : Nat) (ws : List W) : toD h (n + 1) (.tup ws) = (ws.mapM (toD h n)).map .tuple := by rw [toD]
theorem toD_slst (h : List O) (n : Nat) (ws : List W) : toD h (n + 1) (.slst ws) = (ws.mapM (toD h n)).map .list := by rw [toD]
abbrev tpI (ns : List Int) : W := .tup (ns.map W.int)
abbrev lsI (ns : List Int) : W := .slst (ns.map W.int)
theorem toD_tpI (h : List O) (n : Nat) (ns : List Int) : toD h (n + 1) (tpI ns) = some (.tuple (ns.map .int)) := by
  rw [toD_tup, mapM_pure (d := PyData.int) (toD_int h n)]; rfl
theorem toD_lsI (h : List O) (n : Nat) (ns : List Int) : toD h (n + 1) (lsI ns) = some (.list (ns.map .int)) := by
  rw [toD_slst, mapM_pure (d := PyData.int) (toD_int h n)]; rfl
theorem lay_ints : ∀ ns : List Int, PyData.canLayAll0 (ns.map .int) = true ∧ PyData.depthAll (ns.map .int) = 0
  | [] => ⟨rfl, rfl⟩
  | n :: ns => by
    obtain ⟨a, b⟩ := lay_ints ns
    rw [List.map_cons, PyData.canLayAll0, PyData.depthAll, a, b]
    exact ⟨rfl, rfl⟩
theorem shaped_tpI (ns : List Int) : SeqAt.shaped (.tuple (ns.map .int)) = true := by
  unfold SeqAt.shaped
  rw [PyData.canLay0, PyData.depth, (lay_ints ns).1, (lay_ints ns).2]; rfl
theorem shaped_lsI (ns : List Int) : SeqAt.shaped (.list (ns.map .int)) = true := by
  unfold SeqAt.shaped
  rw [PyData.canLay0, PyData.depth, (lay_ints ns).1, (lay_ints ns).2]; rfl
theorem eqv_ints : ∀ a b : List Int, PyData.eqvAll (a.map .int) (b.map .int) = decide (a = b)
  | [], [] => rfl
  | [], b :: bs => rfl
  | a :: as, [] => rfl
  | a :: as, b :: bs => by
    rw [List.map_cons, List.map_cons, PyData.eqvAll, PyData.eqv, eqv_ints as bs]
    by_cases h1 : a = b
    · by_cases h2 : as = bs
      · simp [h1, h2]
      · simp [h1, h2]
    · simp [h1]
/-- == by data -/
theorem eqO_of {h : List O} {a b : Opd} {d e : PyData} (ha : datO h a = some d) (hb : datO h b = some e) (sa : SeqAt.shaped d = true) (sb : SeqAt.shaped e = true) (hn : ∀ x y, a = .inr x → b = .inr y → scalW x y = false) : eqO h a b = some (PyData.eqv d e) := by
  have key : (match datO h a, datO h b with
    | some d, some e => if (SeqAt.shaped d && SeqAt.shaped e) = true then some (PyData.eqv d e) else none
    | _, _ => none) = some (PyData.eqv d e) := by
    rw [ha, hb]
    dsimp only
    rw [sa, sb]
    rfl
  cases a with
  | inl xs => exact key
  | inr x =>
    cases b with
    | inl ys => exact key
    | inr y =>
      show eqW h x y = _
      unfold eqW
      rw [hn x y rfl rfl, if_neg Bool.false_ne_true]
      exact key
theorem eqO_refl {h : List O} {a b : Opd} {d : PyData} (ha : datO h a = some d) (hb : datO h b = some d) (sa : SeqAt.shaped d = true) (hn : ∀ x y, a = .inr x → b = .inr y → scalW x y = false) : eqO h a b = some true := by
  rw [eqO_of ha hb sa sa hn, SeqAt.eqv_refl d (SeqAt.canLay_of_shaped sa)]
theorem datO_tpI (h : List O) (ns : List Int) : datO h (.inr (tpI ns)) = some (.tuple (ns.map .int)) := toD_tpI h 11 ns
theorem datO_lsI (h : List O) (ns : List Int) : datO h (.inr (lsI ns)) = some (.list (ns.map .int)) := toD_lsI h 11 ns
theorem eqO_tpI (h : List O) (a b : List Int) : eqO h (.inr (tpI a)) (.inr (tpI b)) = some (decide (a = b)) := by
  rw [eqO_of (datO_tpI h a) (datO_tpI h b) (shaped_tpI a) (shaped_tpI b) (fun x y e1 e2 => by cases e1; cases e2; rfl), PyData.eqv, eqv_ints]

/-! ### the laws' draws -/
theorem pow_ok {i j : Int} (h1 : 0 ≤ j) (h2 : j ≤ 1000000) (h3 : i.natAbs < 2 ^ 64) : powOk i j = true := decide_eq_true ⟨h1, h2, h3⟩
theorem mul_small {i j : Int} (h1 : -(2 ^ 64) < i) (h2 : i < 2 ^ 64) : mulOk i j = true := by
  unfold mulOk
  rw [decide_eq_true (p := -(2 ^ 64) < i ∧ i < 2 ^ 64) ⟨h1, h2⟩]
  rfl
theorem mul_small2 {i j : Int} (h1 : -(2 ^ 64) < j) (h2 : j < 2 ^ 64) : mulOk i j = true := by
  unfold mulOk
  rw [decide_eq_true (p := -(2 ^ 64) < j ∧ j < 2 ^ 64) ⟨h1, h2⟩]
  simp
theorem mul_wide {i j : Int} (h1 : i.natAbs < 2 ^ 250) (h2 : j.natAbs < 2 ^ 250) : mulOk i j = true := by
  unfold mulOk
  have a : i.natAbs.log2 ≤ 250 := by
    by_cases z : i.natAbs = 0
    · rw [z]; decide
    · exact Nat.le_of_lt ((Nat.log2_lt z).mpr h1)
  have b : j.natAbs.log2 ≤ 250 := by
    by_cases z : j.natAbs = 0
    · rw [z]; decide
    · exact Nat.le_of_lt ((Nat.log2_lt z).mpr h2)
  rw [decide_eq_true (p := i.natAbs.log2 + j.natAbs.log2 < 1000000) (by omega)]
  simp
/-- a box: what is left of a great cell, the seed, the draws so far -/
def Bx (b : Nat) (n : Nat) (h : List O) : Prop := ∃ x y z, h[b]? = some (.lst [.int x, .int y, .int z]) ∧ 0 ≤ x ∧ 0 ≤ y ∧ y < 2147483629 ∧ 0 ≤ z ∧ z ≤ n
theorem Bx.app {b n : Nat} {h o : List O} (q : Bx b n h) : Bx b n (h ++ o) := by
  obtain ⟨x, y, z', e, r⟩ := q
  exact ⟨x, y, z', by rw [List.getElem?_append_left (List.getElem?_eq_some_iff.mp e).1]; exact e, r⟩
theorem Bx.le {b n m : Nat} {h : List O} (q : Bx b n h) (l : n ≤ m) : Bx b m h := by
  obtain ⟨x, y, z', e, h1, h2, h3, h4, h5⟩ := q
  exact ⟨x, y, z', e, h1, h2, h3, h4, by omega⟩
theorem Bx.lt {b n : Nat} {h : List O} (q : Bx b n h) : b < h.length := by
  obtain ⟨x, y, z', e, r⟩ := q
  exact (List.getElem?_eq_some_iff.mp e).1
/-- only the box has changed -/
def Bd (b : Nat) (h h' : List O) : Prop := h'.length = h.length ∧ ∀ i, i ≠ b → h'[i]? = h[i]?
theorem Bd.refl {b : Nat} {h : List O} : Bd b h h := ⟨rfl, fun _ _ => rfl⟩
theorem Bd.trans {b : Nat} {h h1 h2 : List O} (p : Bd b h h1) (q : Bd b h1 h2) : Bd b h h2 := ⟨q.1.trans p.1, fun i hi => (q.2 i hi).trans (p.2 i hi)⟩
theorem Bd.set {b : Nat} {h : List O} {o : O} : Bd b h (h.set b o) := ⟨List.length_set, fun i hi => List.getElem?_set_ne (Ne.symm hi)⟩
def takeT (p q : Int) : Mss := (.cons (.ife (.cmp .Gt (.sub (.var 0) (.int 0)) (.int 0)) (.cons (.asg (.name 2) (.bin .Mod (.sub (.var 0) (.int 0)) (.var 1))) (.cons (.asg (.sub (.var 0) (.int 0)) (.bin .FloorDiv (.sub (.var 0) (.int 0)) (.var 1))) (.cons (.ret (.var 2)) .nil))) .nil) (.cons (.asg (.sub (.var 0) (.int 2)) (.bin .Add (.sub (.var 0) (.int 2)) (.int 1)))
  (.cons (.asg (.name 3) (.bin .Mod (.bin .Pow (.bin .Add (.bin .Add (.sub (.var 0) (.int 1)) (.bin .Mult (.int p) (.sub (.var 0) (.int 2)))) (.int q)) (.int 5)) (.int 2147483647))) (.cons (.asg (.name 3) (.bin .Mod (.bin .Pow (.bin .Add (.var 3) (.bin .Mult (.int 104711) (.sub (.var 0) (.int 2)))) (.int 3)) (.int 2147483587))) (.cons (.ret (.bin .Mod (.bin .FloorDiv (.var 3) (.int 32)) (.var 1))) .nil)))))
def cellT (p q : Int) : Mss := (.cons (.ife (.cmp .Lt (.var 1) (.blt "len" (.cons (.var 0) .nil))) (.cons (.ret (.sub (.var 0) (.var 1))) .nil) .nil) (.cons (.ret (.bin .Add (.bin .Mult (.int p) (.var 1)) (.int q))) .nil))
def boxT : Mss := (.cons (.ret (.lst (.cons (.blt "max" (.cons (.int 0) (.cons (.bin .Sub (.var 0) (.bin .Pow (.int 10) (.int 18))) .nil))) (.cons (.bin .Mod (.var 0) (.int 2147483629)) (.cons (.int 0) .nil))))) .nil)
theorem takeT_ok (C : Cc) (p q : Int) (hp : 0 ≤ p ∧ p < 100000000) (hq : 0 ≤ q ∧ q < 100000) (h : List O) (b n : Nat) (many : Int) (hb : Bx b n h) (hm : divOk many = true) (hm0 : 0 < many) (hn : n < 100000000) :
    ∃ r h', endF (evSs C (takeT p q) [some (.ref b), some (.int many), none, none] h) = .ok (.int r) h' ∧ 0 ≤ r ∧ r < many ∧ Bx b (n + 1) h' ∧ Bd b h h' := by
  obtain ⟨x, y, z, e, hx, hy, hy2, hz, hz2⟩ := hb
  have hlt : b < h.length := (List.getElem?_eq_some_iff.mp e).1
  have n0 : many ≠ 0 := by omega
  by_cases h0 : 0 < x
  · refine ⟨x.fmod many, h.set b (.lst [.int (x.fdiv many), .int y, .int z]), ?_, Int.fmod_nonneg_of_pos _ hm0, Int.fmod_lt_of_pos _ hm0, ⟨_, y, z, List.getElem?_set_self hlt, Int.fdiv_nonneg hx (by omega), hy, hy2, hz, by omega⟩, .set⟩
    simp -dsimp [takeT, sub_ref h e, L2.atI, L2.ixN, h0, set_ref h e, n0, chk_of hm]
  · have hb2 : (h.set b (.lst [.int x, .int y, .int (z + 1)]))[b]? = some (.lst [.int x, .int y, .int (z + 1)]) := by rw [List.getElem?_set_self hlt]
    have q1 : mulOk p (z + 1) = true := mul_small (by omega) (by omega)
    have pz : 0 ≤ p * (z + 1) := Int.mul_nonneg hp.1 (by omega)
    have pz2 : p * (z + 1) ≤ 100000000 * 100000001 := Int.mul_le_mul (by omega) (by omega) (by omega) (by omega)
    have p1 : powOk (y + p * (z + 1) + q) 5 = true := pow_ok (by omega) (by omega) (by omega)
    have m1 := Int.fmod_nonneg_of_pos ((y + p * (z + 1) + q) ^ 5) (b := 2147483647) (by omega)
    have m2 := Int.fmod_lt_of_pos ((y + p * (z + 1) + q) ^ 5) (b := 2147483647) (by omega)
    have p2 : powOk ((((y + p * (z + 1) + q) ^ 5).fmod 2147483647) + 104711 * (z + 1)) 3 = true := pow_ok (by omega) (by omega) (by omega)
    have q2 : mulOk 104711 (z + 1) = true := mul_small (by omega) (by omega)
    have q3 : divOk 32 = true := by decide
    refine ⟨(((((((y + p * (z + 1) + q) ^ 5).fmod 2147483647) + 104711 * (z + 1)) ^ 3).fmod 2147483587).fdiv 32).fmod many, h.set b (.lst [.int x, .int y, .int (z + 1)]), ?_, Int.fmod_nonneg_of_pos _ hm0, Int.fmod_lt_of_pos _ hm0, ⟨x, y, z + 1, hb2, hx, hy, hy2, by omega, by omega⟩, .set⟩
    simp -dsimp [takeT, sub_ref h e, sub_ref _ hb2, L2.atI, L2.ixN, h0, set_ref h e, n0, chk_of p1, chk_of p2, chk_of q1, chk_of q2, chk_of q3]
theorem cellT_in (C : Cc) (p q : Int) (h : List O) (ns : List Int) (k : Nat) (hk : k < ns.length) : endF (evSs C (cellT p q) [some (.slst (ns.map W.int)), some (.int k)] h) = .ok (.int ns[k]) h := by
  have e : (ns.map W.int)[k]? = some (.int ns[k]) := by simp [hk]
  have h1 : (k : Int) < (ns.length : Int) := by omega
  have h2 : (0 : Int) ≤ k := by omega
  simp -dsimp [cellT, L2.atI, L2.ixN, h1, h2, e, hk]
theorem cellT_out (C : Cc) (p q : Int) (h : List O) (ns : List Int) (k : Int) (hk : ¬ k < ns.length) (q1 : mulOk p k = true) : endF (evSs C (cellT p q) [some (.slst (ns.map W.int)), some (.int k)] h) = .ok (.int (p * k + q)) h := by
  have e1 : (ev C.cn (.bin .Add (.bin .Mult (.int p) (.var 1)) (.int q))).v [some (.slst (ns.map W.int)), some (.int k)] h = .ok (.int (p * k + q)) h := by
    simp -dsimp [chk_of q1]
  have e2 : (ev C.cn (.cmp .Lt (.var 1) (.blt "len" (.cons (.var 0) .nil)))).t [some (.slst (ns.map W.int)), some (.int k)] h = .ok false h := by
    simp -dsimp [hk]
  unfold cellT
  rw [ss_cons, s_ife_, e2, liftE_ok, ifS_f, ss_nil, seqS_nx, ss_one, s_ret_, e1, liftE_ok]
  rfl
theorem cellT_ok (C : Cc) (p q : Int) (hp : 0 ≤ p ∧ p < 100000000) (h : List O) (ns : List Int) (k : Nat) : ∃ c, endF (evSs C (cellT p q) [some (.slst (ns.map W.int)), some (.int k)] h) = .ok (.int c) h := by
  by_cases hk : k < ns.length
  · exact ⟨_, cellT_in C p q h ns k hk⟩
  · exact ⟨_, cellT_out C p q h ns k (by omega) (mul_small (by omega) (by omega))⟩
theorem boxT_ev (C : Cc) (h : List O) (c : Int) : endF (evSs C boxT [some (.int c)] h) = .ok (.ref h.length) (h ++ [.lst [.int (if c - 10 ^ 18 > 0 then c - 10 ^ 18 else 0), .int (c.fmod 2147483629), .int 0]]) := by
  have p1 : powOk 10 18 = true := by decide
  have z3 : decide (3 ≤ sizeLine) = true := decide_eq_true (by rw [sizeLine_eq]; omega)
  simp -dsimp [boxT, chk_of p1, chk_of z3]
theorem boxT_bx (h : List O) (c : Int) : Bx h.length 0 (h ++ [.lst [.int (if c - 10 ^ 18 > 0 then c - 10 ^ 18 else 0), .int (c.fmod 2147483629), .int 0]]) := by
  refine ⟨_, _, 0, by rw [List.getElem?_append_right (Nat.le_refl _), Nat.sub_self]; rfl, ?_, Int.fmod_nonneg_of_pos _ (by omega), Int.fmod_lt_of_pos _ (by omega), by omega, by omega⟩
  split <;> omega
theorem boxT_ok (C : Cc) (h : List O) (c : Int) : ∃ x y, endF (evSs C boxT [some (.int c)] h) = .ok (.ref h.length) (h ++ [.lst [.int x, .int y, .int 0]]) ∧ Bx h.length 0 (h ++ [.lst [.int x, .int y, .int 0]]) :=
  ⟨_, _, boxT_ev C h c, boxT_bx h c⟩
/-! ### the law's own range -/
theorem cap_ok (a b n : Nat) (ha : a ≤ b) : ∃ m : Nat, a ≤ m ∧ m ≤ b ∧ (if (if (n : Int) < b then (n : Int) else b) > a then (if (n : Int) < b then (n : Int) else b) else a) = (m : Int) := by
  by_cases h1 : n < b
  · by_cases h2 : a < n
    · exact ⟨n, by omega, by omega, by rw [if_pos (show (n : Int) < b by omega), if_pos (show (n : Int) > a by omega)]⟩
    · exact ⟨a, by omega, by omega, by rw [if_pos (show (n : Int) < b by omega), if_neg (show ¬ (n : Int) > a by omega)]⟩
  · by_cases h2 : a < b
    · exact ⟨b, by omega, by omega, by rw [if_neg (show ¬ (n : Int) < b by omega), if_pos (show (b : Int) > a by omega)]⟩
    · exact ⟨a, by omega, by omega, by rw [if_neg (show ¬ (n : Int) < b by omega), if_neg (show ¬ (b : Int) > a by omega)]⟩
theorem rng_ok {m : Nat} (h : m < 1000000) : rngOk (m : Int) = true := by
  have e : (2 : Int) ^ 62 = 4611686018427387904 := by decide
  unfold rngOk
  rw [e]
  exact decide_eq_true ⟨by omega, by omega⟩
theorem rng1_of {C : Cn} {e : Me} {ℓ : Lo} {h h1 : List O} {n : Nat} (q : (ev C e).v ℓ h = .ok (.int (n : Int)) h1) (hn : n < 1000000) : evi C (.range (.cons e .nil)) ℓ h = .ok (rngL 0 n, []) h1 := by
  rw [evi_range, evs_cons, q, R.bind_ok, evs_nil, R.bind_ok, R.bind_ok]
  show chk (rngOk (n : Int)) (.ok (rngL 0 (n : Int).toNat, []) h1) = _
  rw [chk_of (rng_ok hn)]
  rfl
theorem rng_ok2 {m : Int} (h1 : -1000000 < m) (h2 : m < 1000000) : rngOk m = true := by
  have e : (2 : Int) ^ 62 = 4611686018427387904 := by decide
  unfold rngOk
  rw [e]
  exact decide_eq_true ⟨by omega, by omega⟩
theorem rng2_of {C : Cn} {e f : Me} {ℓ : Lo} {h h1 h2 : List O} {i j : Int} (q : (ev C e).v ℓ h = .ok (.int i) h1) (q2 : (ev C f).v ℓ h1 = .ok (.int j) h2) (hi1 : -1000000 < i) (hi : i < 1000000) (hj1 : -1000000 < j) (hj : j < 1000000) : evi C (.range (.cons e (.cons f .nil))) ℓ h = .ok (rngL i (j - i).toNat, []) h2 := by
  rw [evi_range, evs_cons, q, R.bind_ok, evs_cons, q2, R.bind_ok, evs_nil, R.bind_ok, R.bind_ok, R.bind_ok]
  show chk (rngOk i && rngOk j) (.ok (rngL i (j - i).toNat, []) h2) = _
  rw [rng_ok2 hi1 hi, rng_ok2 hj1 hj]
  rfl
theorem sz {n : Nat} (h : n ≤ 1000) : decide (n ≤ sizeLine) = true := decide_eq_true (by rw [sizeLine_eq]; omega)
theorem sz2 {n : Nat} (h : n < 1000) : decide (n < sizeLine) = true := decide_eq_true (by rw [sizeLine_eq]; omega)
theorem repr_of {h : List O} {a : Opd} {d : PyData} (e : datO h a = some d) (c : (d.showable && decide (d.shown.length ≤ 16777216)) = true) : reprO h a = .ok (.str d.shown) h := by
  unfold reprO
  rw [e]
  show chk (d.showable && decide (d.shown.length ≤ sizeLine)) _ = _
  rw [sizeLine_eq, c]
  rfl
@[simp] theorem seqR_sl (ws : List W) (h : List O) : seqR h (.slst ws) = .ok ws h := rfl
@[simp] theorem seqR_tp (ws : List W) (h : List O) : seqR h (.tup ws) = .ok ws h := rfl
def capR (a b : Int) : Mi := (.range (.cons (.blt "max" (.cons (.int a) (.cons (.blt "min" (.cons (.int b) (.cons (.blt "len" (.cons (.var 0) .nil)) .nil))) .nil))) .nil))
theorem capR_ok (C : Cn) (a b : Nat) (hab : a ≤ b) (hb : b < 1000) (ns : List Int) (ℓ : Lo) (h : List O) : ∃ m, a ≤ m ∧ m ≤ b ∧ evi C (capR a b) (some (.slst (ns.map W.int)) :: ℓ) h = .ok ((List.range m).map (fun k : Nat => W.int (0 + (k : Int))), []) h := by
  obtain ⟨m, m1, m2, em⟩ := cap_ok a b ns.length hab
  refine ⟨m, m1, m2, ?_⟩
  have e1 : (ev C (.blt "len" (.cons (.var 0) .nil))).v (some (.slst (ns.map W.int)) :: ℓ) h = .ok (.int ns.length) h := by simp
  have e2 : (ev C (.blt "min" (.cons (.int b) (.cons (.blt "len" (.cons (.var 0) .nil)) .nil)))).v (some (.slst (ns.map W.int)) :: ℓ) h = .ok (.int (if (ns.length : Int) < b then (ns.length : Int) else b)) h := by
    rw [show (ev C (.blt "min" (.cons (.int b) (.cons (.blt "len" (.cons (.var 0) .nil)) .nil)))).v (some (.slst (ns.map W.int)) :: ℓ) h = (((ev C (.blt "len" (.cons (.var 0) .nil))).v (some (.slst (ns.map W.int)) :: ℓ) h).bind fun y h => bltV "min" [.int b, y] h) from rfl, e1, R.bind_ok, mn]
  rw [show evi C (capR a b) (some (.slst (ns.map W.int)) :: ℓ) h = ((((ev C (.blt "min" (.cons (.int b) (.cons (.blt "len" (.cons (.var 0) .nil)) .nil)))).v (some (.slst (ns.map W.int)) :: ℓ) h).bind fun y h => bltV "max" [.int a, y] h).bind fun y h => rngM [y] h) from rfl, e2, R.bind_ok, mx, em, R.bind_ok]
  show chk (rngOk (m : Int)) (.ok (rngL 0 (m : Int).toNat, []) h) = _
  rw [chk_of (rng_ok (by omega))]
  rfl
end MP
set_option maxRecDepth 100000
set_option maxHeartbeats 4000000
namespace L03
open PySem PySem.Spec PyProof.Rows MP
def top (i : Nat) : Stmt := PySem.Challenge.pw_seenchoices_k03_integers_scaled.main.body.getD i (.Pass ⟨0, 0, 0, 0⟩)
def clm (i j : Nat) : Stmt := match top i with
  | .ClassDef _ _ _ body .. => body.getD j (.Pass ⟨0, 0, 0, 0⟩)
  | _ => .Pass ⟨0, 0, 0, 0⟩
def d_is_whole : FD := ⟨["value"], ["value"],
  (.cons (.ret (.boolop .And (.cons (.isi (.var 0) ["int"]) (.cons (.not (.isi (.var 0) ["bool"])) .nil)))) .nil), false⟩
def d_is_list : FD := ⟨["value"], ["value"],
  (.cons (.ret (.isi (.var 0) ["list", "tuple"])) .nil), false⟩
def d_are_numbers : FD := ⟨["value"], ["value", ".0", "item"],
  (.cons (.ret (.boolop .And (.cons (.call "is_list" (.cons (.var 0) .nil)) (.cons (.blt "all" (.cons (.lcomp (.call "is_whole" (.cons (.var 2) .nil)) (.name 2) (.val (.var 0)) .none [1, 2]) .nil)) .nil)))) .nil), false⟩
def d_common_factor : FD := ⟨["one", "other"], ["one", "other"],
  (.cons (.while (.cmp .Gt (.var 1) (.int 0)) (.cons (.par 0 1 (.var 1) (.bin .Mod (.var 0) (.var 1))) .nil)) (.cons (.ret (.var 0)) .nil)), false⟩
def d_scaled : FD := ⟨["numbers"], ["numbers", "factor", "number", ".0"],
  (.cons (.ife (.not (.call "are_numbers" (.cons (.var 0) .nil))) (.cons (.raise "InvalidPart" "value" (.var 0)) .nil) .nil) (.cons (.asg (.name 1) (.int 0)) (.cons (.for (.name 2) (.val (.var 0)) (.cons (.asg (.name 1) (.call "common_factor" (.cons (.var 1) (.cons (.blt "abs" (.cons (.var 2) .nil)) .nil)))) .nil)) (.cons (.ret (.blt "tuple" (.cons (.lcomp (.bin .FloorDiv (.var 2) (.blt "max" (.cons (.int 1) (.cons (.var 1) .nil)))) (.name 2) (.val (.var 0)) .none [3, 2]) .nil))) .nil)))), false⟩
def d_product : FD := ⟨["counts", "numbers"], ["counts", "numbers", ".0", "count", "number"],
  (.cons (.ret (.blt "sum" (.cons (.lcomp (.bin .Mult (.var 3) (.var 4)) (.tup (.cons (.name 3) (.cons (.name 4) .nil))) (.zip (.var 0) (.var 1)) .none [2, 3, 4]) .nil))) .nil), false⟩
def d_price : FD := ⟨["counts", "numbers"], ["counts", "numbers"],
  (.cons (.ife (.not (.call "are_numbers" (.cons (.var 0) .nil))) (.cons (.raise "InvalidPart" "value" (.var 0)) .nil) .nil) (.cons (.ife (.boolop .Or (.cons (.not (.call "are_numbers" (.cons (.var 1) .nil))) (.cons (.cmp .NotEq (.blt "len" (.cons (.var 1) .nil)) (.blt "len" (.cons (.var 0) .nil))) .nil))) (.cons (.raise "InvalidPart" "value" (.var 1)) .nil) .nil) (.cons (.ret (.call "product" (.cons (.var 0) (.cons (.var 1) .nil)))) .nil))), false⟩
def d__law_cell : FD := ⟨["_law_script", "_law_k"], ["_law_script", "_law_k"],
  (.cons (.ife (.cmp .Lt (.var 1) (.blt "len" (.cons (.var 0) .nil))) (.cons (.ret (.sub (.var 0) (.var 1))) .nil) .nil) (.cons (.ret (.bin .Add (.bin .Mult (.int 15489793) (.var 1)) (.int 1787))) .nil)), false⟩
def d__law_box : FD := ⟨["_law_cell_here"], ["_law_cell_here"],
  (.cons (.ret (.lst (.cons (.blt "max" (.cons (.int 0) (.cons (.bin .Sub (.var 0) (.bin .Pow (.int 10) (.int 18))) .nil))) (.cons (.bin .Mod (.var 0) (.int 2147483629)) (.cons (.int 0) .nil))))) .nil), false⟩
def d__law_take : FD := ⟨["_law_box_here", "_law_many"], ["_law_box_here", "_law_many", "_law_digit", "_law_mixed"],
  (.cons (.ife (.cmp .Gt (.sub (.var 0) (.int 0)) (.int 0)) (.cons (.asg (.name 2) (.bin .Mod (.sub (.var 0) (.int 0)) (.var 1))) (.cons (.asg (.sub (.var 0) (.int 0)) (.bin .FloorDiv (.sub (.var 0) (.int 0)) (.var 1))) (.cons (.ret (.var 2)) .nil))) .nil) (.cons (.asg (.sub (.var 0) (.int 2)) (.bin .Add (.sub (.var 0) (.int 2)) (.int 1))) (.cons (.asg (.name 3) (.bin .Mod (.bin .Pow (.bin .Add (.bin .Add (.sub (.var 0) (.int 1)) (.bin .Mult (.int 15489793) (.sub (.var 0) (.int 2)))) (.int 1787)) (.int 5)) (.int 2147483647))) (.cons (.asg (.name 3) (.bin .Mod (.bin .Pow (.bin .Add (.var 3) (.bin .Mult (.int 104711) (.sub (.var 0) (.int 2)))) (.int 3)) (.int 2147483587))) (.cons (.ret (.bin .Mod (.bin .FloorDiv (.var 3) (.int 32)) (.var 1))) .nil))))), false⟩
def d__law_row : FD := ⟨["_law_box_here", "_law_many"], ["_law_box_here", "_law_many", "_law_factor", "_law_wide", ".0", "_law_k"],
  (.cons (.asg (.name 2) (.bin .Add (.int 1) (.call "_law_take" (.cons (.var 0) (.cons (.int 12) .nil))))) (.cons (.asg (.name 3) (.sub (.lst (.cons (.int 4) (.cons (.int 100) (.cons (.bin .Pow (.int 10) (.int 12)) (.cons (.bin .Pow (.int 10) (.int 28)) .nil))))) (.call "_law_take" (.cons (.var 0) (.cons (.int 4) .nil))))) (.cons (.ret (.frz (.lcomp (.bin .Mult (.bin .Sub (.call "_law_take" (.cons (.var 0) (.cons (.var 3) .nil))) (.bin .FloorDiv (.var 3) (.int 2))) (.var 2)) (.name 5) (.range (.cons (.var 1) .nil)) .none [4, 5]))) .nil))), false⟩
def d__law_shared : FD := ⟨["_law_row_here"], ["_law_row_here", "_law_one", "_law_number", "_law_other"],
  (.cons (.asg (.name 1) (.int 0)) (.cons (.for (.name 2) (.val (.var 0)) (.cons (.asg (.name 3) (.blt "abs" (.cons (.var 2) .nil))) (.cons (.while (.cmp .NotEq (.var 3) (.int 0)) (.cons (.par 1 3 (.var 3) (.bin .Mod (.var 1) (.var 3))) .nil)) .nil))) (.cons (.ret (.var 1)) .nil))), false⟩
def d__law_caught : FD := ⟨["_law_way", "_law_one", "_law_other"], ["_law_way", "_law_one", "_law_other", "e"],
  (.cons (.try (.cons (.ret (.frz (.lst (.cons (.str "told") (.cons (.ife (.cmp .Eq (.var 0) (.int 0)) (.call "scaled" (.cons (.var 1) .nil)) (.call "price" (.cons (.var 1) (.cons (.var 2) .nil)))) .nil))))) .nil) [⟨"InvalidPart", 3, [.lit "part", .fld "value"]⟩]) .nil), false⟩
def d__law_odd_right : FD := ⟨[], ["_law_thing", "_law_found", "_law_bad"],
  (.cons (.for (.name 0) (.val (.lst (.cons .non (.cons (.int 3) (.cons (.bl true) (.cons (.str "12") (.cons (.frd .nil) (.cons (.tup (.cons (.int 1) (.cons (.bl true) .nil))) (.cons (.tup (.cons (.int 1) (.cons (.str "2") .nil))) (.cons (.frz (.lst (.cons .non .nil))) (.cons (.tup (.cons (.int 1) (.cons (.frz (.lst (.cons (.int 2) .nil))) .nil))) .nil))))))))))) (.cons (.asg (.name 1) (.frz (.lst (.cons (.call "_law_caught" (.cons (.int 0) (.cons (.var 0) (.cons (.int 0) .nil)))) (.cons (.call "_law_caught" (.cons (.int 1) (.cons (.var 0) (.cons (.var 0) .nil)))) (.cons (.call "_law_caught" (.cons (.int 1) (.cons (.tup (.cons (.int 1) (.cons (.int 2) .nil))) (.cons (.var 0) .nil)))) .nil)))))) (.cons (.ife (.cmp .NotEq (.blt "repr" (.cons (.var 1) .nil)) (.blt "repr" (.cons (.lrep (.lst (.cons (.frz (.lst (.cons (.str "part") (.cons (.var 0) .nil)))) .nil)) (.int 3)) .nil))) (.cons (.ret (.bl false)) .nil) .nil) .nil))) (.cons (.asg (.name 2) (.lst (.cons .non .nil))) (.cons (.asg (.name 1) (.frz (.lst (.cons (.sub (.call "_law_caught" (.cons (.int 0) (.cons (.var 2) (.cons (.int 0) .nil)))) (.int 1)) (.cons (.sub (.call "_law_caught" (.cons (.int 1) (.cons (.var 2) (.cons (.int 0) .nil)))) (.int 1)) (.cons (.sub (.call "_law_caught" (.cons (.int 1) (.cons (.tup (.cons (.int 1) .nil)) (.cons (.var 2) .nil)))) (.int 1)) .nil)))))) (.cons (.expr (.bm "append" (.var 2) (.cons (.int 7) .nil))) (.cons (.ife (.cmp .NotEq (.var 1) (.lrep (.lst (.cons (.frz (.lst (.cons .non (.cons (.int 7) .nil)))) .nil)) (.int 3))) (.cons (.ret (.bl false)) .nil) .nil) (.cons (.ret (.boolop .And (.cons (.cmp .Eq (.call "_law_caught" (.cons (.int 1) (.cons (.tup (.cons (.int 1) (.cons (.int 2) .nil))) (.cons (.tup (.cons (.int 3) .nil)) .nil)))) (.lst (.cons (.str "part") (.cons (.tup (.cons (.int 3) .nil)) .nil)))) (.cons (.cmp .Eq (.call "_law_caught" (.cons (.int 1) (.cons (.tup .nil) (.cons (.tup (.cons (.int 3) .nil)) .nil)))) (.lst (.cons (.str "part") (.cons (.tup (.cons (.int 3) .nil)) .nil)))) .nil)))) .nil)))))), true⟩
def d_law : FD := ⟨["_law_script"], ["_law_script", "_law_k", "_law_box_here", "_law_row_here", "_law_other", "_law_factor", "_law_due", "_law_some", "_law_found", "_law_total_due", ".0", "_law_number", "_law_left", "_law_right"],
  (.cons (.for (.name 1) (.range (.cons (.blt "max" (.cons (.int 2) (.cons (.blt "min" (.cons (.int 8) (.cons (.blt "len" (.cons (.var 0) .nil)) .nil))) .nil))) .nil)) (.cons (.asg (.name 2) (.call "_law_box" (.cons (.call "_law_cell" (.cons (.var 0) (.cons (.var 1) .nil))) .nil))) (.cons (.asg (.name 3) (.call "_law_row" (.cons (.var 2) (.cons (.call "_law_take" (.cons (.var 2) (.cons (.int 7) .nil))) .nil)))) (.cons (.asg (.name 4) (.call "_law_row" (.cons (.var 2) (.cons (.blt "len" (.cons (.var 3) .nil)) .nil)))) (.cons (.asg (.name 5) (.blt "max" (.cons (.int 1) (.cons (.call "_law_shared" (.cons (.var 3) .nil)) .nil)))) (.cons (.asg (.name 6) (.blt "tuple" (.cons (.lcomp (.bin .FloorDiv (.var 11) (.var 5)) (.name 11) (.val (.var 3)) .none [10, 11]) .nil))) (.cons (.for (.name 7) (.val (.lst (.cons (.blt "tuple" (.cons (.var 3) .nil)) (.cons (.frz (.blt "list" (.cons (.var 3) .nil))) (.cons (.var 6) .nil))))) (.cons (.asg (.name 8) (.call "scaled" (.cons (.var 7) .nil))) (.cons (.ife (.boolop .Or (.cons (.cmp .NotEq (.var 8) (.var 6)) (.cons (.not (.isi (.var 8) ["tuple"])) .nil))) (.cons (.ret (.bl false)) .nil) .nil) .nil))) (.cons (.asg (.name 9) (.blt "sum" (.cons (.lcomp (.bin .Mult (.var 12) (.var 13)) (.tup (.cons (.name 12) (.cons (.name 13) .nil))) (.zip (.var 3) (.var 4)) .none [10, 12, 13]) .nil))) (.cons (.ife (.boolop .Or (.cons (.cmp .NotEq (.call "price" (.cons (.blt "tuple" (.cons (.var 3) .nil)) (.cons (.blt "tuple" (.cons (.var 4) .nil)) .nil))) (.var 9)) (.cons (.cmp .NotEq (.call "price" (.cons (.var 4) (.cons (.var 3) .nil))) (.var 9)) .nil))) (.cons (.ret (.bl false)) .nil) .nil) (.cons (.ife (.cmp .NotEq (.call "_law_caught" (.cons (.int 1) (.cons (.blt "tuple" (.cons (.var 3) .nil)) (.cons (.blt "tuple" (.cons (.lcat (.var 4) (.lst (.cons (.int 1) .nil))) .nil)) .nil)))) (.lst (.cons (.str "part") (.cons (.blt "tuple" (.cons (.lcat (.var 4) (.lst (.cons (.int 1) .nil))) .nil)) .nil)))) (.cons (.ret (.bl false)) .nil) .nil) .nil)))))))))) (.cons (.ret (.boolop .And (.cons (.call "_law_odd_right" .nil) (.cons (.cmp .Eq (.call "scaled" (.cons (.tup .nil) .nil)) (.tup .nil)) (.cons (.cmp .Eq (.call "price" (.cons (.tup .nil) (.cons (.tup .nil) .nil))) (.int 0)) .nil))))) .nil)), false⟩
def D : List (Str × FD) := [("is_whole", d_is_whole), ("is_list", d_is_list), ("are_numbers", d_are_numbers), ("common_factor", d_common_factor), ("scaled", d_scaled), ("product", d_product), ("price", d_price), ("_law_cell", d__law_cell), ("_law_box", d__law_box), ("_law_take", d__law_take), ("_law_row", d__law_row), ("_law_shared", d__law_shared), ("_law_caught", d__law_caught), ("_law_odd_right", d__law_odd_right), ("law", d_law)]
def exs : List (Str × Str) := [("InvalidPart", "value")]
def cls : List Str := ["ChoiceError", "InvalidPart"]
def isT : List ((Str × Str) × Bool) := [(("InvalidPart", "InvalidPart"), true)]
def tx : Tx := ⟨D.map (·.1), exs, cls⟩
theorem c_is_whole : chkD tx (top 4) d_is_whole = true := by decide +kernel
theorem c_is_list : chkD tx (top 5) d_is_list = true := by decide +kernel
theorem c_are_numbers : chkD tx (top 6) d_are_numbers = true := by decide +kernel
theorem c_common_factor : chkD tx (top 7) d_common_factor = true := by decide +kernel
theorem c_scaled : chkD tx (top 8) d_scaled = true := by decide +kernel
theorem c_product : chkD tx (top 9) d_product = true := by decide +kernel
theorem c_price : chkD tx (top 10) d_price = true := by decide +kernel
theorem c__law_cell : chkD tx (top 12) d__law_cell = true := by decide +kernel
theorem c__law_box : chkD tx (top 13) d__law_box = true := by decide +kernel
theorem c__law_take : chkD tx (top 14) d__law_take = true := by decide +kernel
theorem c__law_row : chkD tx (top 15) d__law_row = true := by decide +kernel
theorem c__law_shared : chkD tx (top 16) d__law_shared = true := by decide +kernel
theorem c__law_caught : chkD tx (top 17) d__law_caught = true := by decide +kernel
theorem c__law_odd_right : chkD tx (top 18) d__law_odd_right = true := by decide +kernel
theorem c_law : chkD tx (top 19) d_law = true := by decide +kernel
theorem i_InvalidPart : initB (clm 2 0) "ChoiceError" "value" "value" = true := by decide +kernel
def gl : List (Str × W) := []
noncomputable def C (k : Nat) : Cc := mkC D (fun x => gl.lookup x) (fun x y => isT.lookup (x, y)) exs (10 ^ 60) k
theorem call_is_whole (k : Nat) (ws : List W) (h : List O) : (C (k + 1)).cn.call "is_whole" ws h = runF (C k) d_is_whole ws h := by rfl
theorem call_is_list (k : Nat) (ws : List W) (h : List O) : (C (k + 1)).cn.call "is_list" ws h = runF (C k) d_is_list ws h := by rfl
theorem call_are_numbers (k : Nat) (ws : List W) (h : List O) : (C (k + 1)).cn.call "are_numbers" ws h = runF (C k) d_are_numbers ws h := by rfl
theorem call_common_factor (k : Nat) (ws : List W) (h : List O) : (C (k + 1)).cn.call "common_factor" ws h = runF (C k) d_common_factor ws h := by rfl
theorem call_scaled (k : Nat) (ws : List W) (h : List O) : (C (k + 1)).cn.call "scaled" ws h = runF (C k) d_scaled ws h := by rfl
theorem call_product (k : Nat) (ws : List W) (h : List O) : (C (k + 1)).cn.call "product" ws h = runF (C k) d_product ws h := by rfl
theorem call_price (k : Nat) (ws : List W) (h : List O) : (C (k + 1)).cn.call "price" ws h = runF (C k) d_price ws h := by rfl
theorem call__law_cell (k : Nat) (ws : List W) (h : List O) : (C (k + 1)).cn.call "_law_cell" ws h = runF (C k) d__law_cell ws h := by rfl
theorem call__law_box (k : Nat) (ws : List W) (h : List O) : (C (k + 1)).cn.call "_law_box" ws h = runF (C k) d__law_box ws h := by rfl
theorem call__law_take (k : Nat) (ws : List W) (h : List O) : (C (k + 1)).cn.call "_law_take" ws h = runF (C k) d__law_take ws h := by rfl
theorem call__law_row (k : Nat) (ws : List W) (h : List O) : (C (k + 1)).cn.call "_law_row" ws h = runF (C k) d__law_row ws h := by rfl
theorem call__law_shared (k : Nat) (ws : List W) (h : List O) : (C (k + 1)).cn.call "_law_shared" ws h = runF (C k) d__law_shared ws h := by rfl
theorem call__law_caught (k : Nat) (ws : List W) (h : List O) : (C (k + 1)).cn.call "_law_caught" ws h = runF (C k) d__law_caught ws h := by rfl
theorem call__law_odd_right (k : Nat) (ws : List W) (h : List O) : (C (k + 1)).cn.call "_law_odd_right" ws h = runF (C k) d__law_odd_right ws h := by rfl
theorem call_law (k : Nat) (ws : List W) (h : List O) : (C (k + 1)).cn.call "law" ws h = runF (C k) d_law ws h := by rfl
@[simp] theorem isA_InvalidPart_InvalidPart (k : Nat) : (C k).isA "InvalidPart" "InvalidPart" = some true := by cases k <;> rfl
@[simp] theorem C_exs (k : Nat) : (C k).exs = exs := by cases k <;> rfl
@[simp] theorem in_InvalidPart : (("InvalidPart" : Str), ("value" : Str)) ∈ exs := by decide +kernel
/-! ### what the top has left -/
theorem all_mk {P : Program} {w : World} {K : PySem.W.Frag} {h : Heap} {mg : Str → Option Value} {fa : Addr} (X : K.In h) (N : h.Ns mainGlobals mg) (hfa : mg "law" = some (.ref fa))
    {f0 : Addr} {od0 an0 : Option Addr} {sl0 : Array (Option Value)} {oc0 kV0 dc0 pm0 cd0 ct0 : Value}
    {f1 : Addr} {od1 an1 : Option Addr} {sl1 : Array (Option Value)} {oc1 kV1 dc1 pm1 cd1 ct1 : Value}
    {f2 : Addr} {od2 an2 : Option Addr} {sl2 : Array (Option Value)} {oc2 kV2 dc2 pm2 cd2 ct2 : Value}
    {f3 : Addr} {od3 an3 : Option Addr} {sl3 : Array (Option Value)} {oc3 kV3 dc3 pm3 cd3 ct3 : Value}
    {f4 : Addr} {od4 an4 : Option Addr} {sl4 : Array (Option Value)} {oc4 kV4 dc4 pm4 cd4 ct4 : Value}
    {f5 : Addr} {od5 an5 : Option Addr} {sl5 : Array (Option Value)} {oc5 kV5 dc5 pm5 cd5 ct5 : Value}
    {f6 : Addr} {od6 an6 : Option Addr} {sl6 : Array (Option Value)} {oc6 kV6 dc6 pm6 cd6 ct6 : Value}
    {f7 : Addr} {od7 an7 : Option Addr} {sl7 : Array (Option Value)} {oc7 kV7 dc7 pm7 cd7 ct7 : Value}
    {f8 : Addr} {od8 an8 : Option Addr} {sl8 : Array (Option Value)} {oc8 kV8 dc8 pm8 cd8 ct8 : Value}
    {f9 : Addr} {od9 an9 : Option Addr} {sl9 : Array (Option Value)} {oc9 kV9 dc9 pm9 cd9 ct9 : Value}
    {f10 : Addr} {od10 an10 : Option Addr} {sl10 : Array (Option Value)} {oc10 kV10 dc10 pm10 cd10 ct10 : Value}
    {f11 : Addr} {od11 an11 : Option Addr} {sl11 : Array (Option Value)} {oc11 kV11 dc11 pm11 cd11 ct11 : Value}
    {f12 : Addr} {od12 an12 : Option Addr} {sl12 : Array (Option Value)} {oc12 kV12 dc12 pm12 cd12 ct12 : Value}
    {f13 : Addr} {od13 an13 : Option Addr} {sl13 : Array (Option Value)} {oc13 kV13 dc13 pm13 cd13 ct13 : Value}
    {f14 : Addr} {od14 an14 : Option Addr} {sl14 : Array (Option Value)} {oc14 kV14 dc14 pm14 cd14 ct14 : Value}
    {K0 : Addr}
    {K1 : Addr}
    {g0 : Addr} {god0 gan0 : Option Addr} {gsl0 : Array (Option Value)} {goc0 gkV0 gdc0 gpm0 gcd0 gct0 : Value} {gnm0 gq0 : Str} {gN0 : Addr} {gbs0 : List Value} {gsn0 : List Str} {gsub0 : List Value} {gab0 : Bool} {gcol0 : Option Bool} {gdd0 : Option Addr} {gma0 gmb0 gmc0 gmd0 gme0 : Option Value}
    (a0 : PySem.W.nsIn K mainGlobals "is_whole" = some (some (.ref f0)))
    (l0 : K.lookup f0 = some ⟨oc0, od0, .func (PySem.W.fnOf "is_whole" "is_whole" (L2.defArgs (top 4)) (L2.defBody (top 4)) (L2.defScope (top 4)) .none kV0 dc0 pm0 an0 cd0 ct0), sl0⟩)
    (c0 : PySem.W.codeIn K cd0 "is_whole" = true)
    (k0 : PySem.W.keepIn K (.ref f0) = true)
    (a1 : PySem.W.nsIn K mainGlobals "is_list" = some (some (.ref f1)))
    (l1 : K.lookup f1 = some ⟨oc1, od1, .func (PySem.W.fnOf "is_list" "is_list" (L2.defArgs (top 5)) (L2.defBody (top 5)) (L2.defScope (top 5)) .none kV1 dc1 pm1 an1 cd1 ct1), sl1⟩)
    (c1 : PySem.W.codeIn K cd1 "is_list" = true)
    (k1 : PySem.W.keepIn K (.ref f1) = true)
    (a2 : PySem.W.nsIn K mainGlobals "are_numbers" = some (some (.ref f2)))
    (l2 : K.lookup f2 = some ⟨oc2, od2, .func (PySem.W.fnOf "are_numbers" "are_numbers" (L2.defArgs (top 6)) (L2.defBody (top 6)) (L2.defScope (top 6)) .none kV2 dc2 pm2 an2 cd2 ct2), sl2⟩)
    (c2 : PySem.W.codeIn K cd2 "are_numbers" = true)
    (k2 : PySem.W.keepIn K (.ref f2) = true)
    (a3 : PySem.W.nsIn K mainGlobals "common_factor" = some (some (.ref f3)))
    (l3 : K.lookup f3 = some ⟨oc3, od3, .func (PySem.W.fnOf "common_factor" "common_factor" (L2.defArgs (top 7)) (L2.defBody (top 7)) (L2.defScope (top 7)) .none kV3 dc3 pm3 an3 cd3 ct3), sl3⟩)
    (c3 : PySem.W.codeIn K cd3 "common_factor" = true)
    (k3 : PySem.W.keepIn K (.ref f3) = true)
    (a4 : PySem.W.nsIn K mainGlobals "scaled" = some (some (.ref f4)))
    (l4 : K.lookup f4 = some ⟨oc4, od4, .func (PySem.W.fnOf "scaled" "scaled" (L2.defArgs (top 8)) (L2.defBody (top 8)) (L2.defScope (top 8)) .none kV4 dc4 pm4 an4 cd4 ct4), sl4⟩)
    (c4 : PySem.W.codeIn K cd4 "scaled" = true)
    (k4 : PySem.W.keepIn K (.ref f4) = true)
    (a5 : PySem.W.nsIn K mainGlobals "product" = some (some (.ref f5)))
    (l5 : K.lookup f5 = some ⟨oc5, od5, .func (PySem.W.fnOf "product" "product" (L2.defArgs (top 9)) (L2.defBody (top 9)) (L2.defScope (top 9)) .none kV5 dc5 pm5 an5 cd5 ct5), sl5⟩)
    (c5 : PySem.W.codeIn K cd5 "product" = true)
    (k5 : PySem.W.keepIn K (.ref f5) = true)
    (a6 : PySem.W.nsIn K mainGlobals "price" = some (some (.ref f6)))
    (l6 : K.lookup f6 = some ⟨oc6, od6, .func (PySem.W.fnOf "price" "price" (L2.defArgs (top 10)) (L2.defBody (top 10)) (L2.defScope (top 10)) .none kV6 dc6 pm6 an6 cd6 ct6), sl6⟩)
    (c6 : PySem.W.codeIn K cd6 "price" = true)
    (k6 : PySem.W.keepIn K (.ref f6) = true)
    (a7 : PySem.W.nsIn K mainGlobals "_law_cell" = some (some (.ref f7)))
    (l7 : K.lookup f7 = some ⟨oc7, od7, .func (PySem.W.fnOf "_law_cell" "_law_cell" (L2.defArgs (top 12)) (L2.defBody (top 12)) (L2.defScope (top 12)) .none kV7 dc7 pm7 an7 cd7 ct7), sl7⟩)
    (c7 : PySem.W.codeIn K cd7 "_law_cell" = true)
    (k7 : PySem.W.keepIn K (.ref f7) = true)
    (a8 : PySem.W.nsIn K mainGlobals "_law_box" = some (some (.ref f8)))
    (l8 : K.lookup f8 = some ⟨oc8, od8, .func (PySem.W.fnOf "_law_box" "_law_box" (L2.defArgs (top 13)) (L2.defBody (top 13)) (L2.defScope (top 13)) .none kV8 dc8 pm8 an8 cd8 ct8), sl8⟩)
    (c8 : PySem.W.codeIn K cd8 "_law_box" = true)
    (k8 : PySem.W.keepIn K (.ref f8) = true)
    (a9 : PySem.W.nsIn K mainGlobals "_law_take" = some (some (.ref f9)))
    (l9 : K.lookup f9 = some ⟨oc9, od9, .func (PySem.W.fnOf "_law_take" "_law_take" (L2.defArgs (top 14)) (L2.defBody (top 14)) (L2.defScope (top 14)) .none kV9 dc9 pm9 an9 cd9 ct9), sl9⟩)
    (c9 : PySem.W.codeIn K cd9 "_law_take" = true)
    (k9 : PySem.W.keepIn K (.ref f9) = true)
    (a10 : PySem.W.nsIn K mainGlobals "_law_row" = some (some (.ref f10)))
    (l10 : K.lookup f10 = some ⟨oc10, od10, .func (PySem.W.fnOf "_law_row" "_law_row" (L2.defArgs (top 15)) (L2.defBody (top 15)) (L2.defScope (top 15)) .none kV10 dc10 pm10 an10 cd10 ct10), sl10⟩)
    (c10 : PySem.W.codeIn K cd10 "_law_row" = true)
    (k10 : PySem.W.keepIn K (.ref f10) = true)
    (a11 : PySem.W.nsIn K mainGlobals "_law_shared" = some (some (.ref f11)))
    (l11 : K.lookup f11 = some ⟨oc11, od11, .func (PySem.W.fnOf "_law_shared" "_law_shared" (L2.defArgs (top 16)) (L2.defBody (top 16)) (L2.defScope (top 16)) .none kV11 dc11 pm11 an11 cd11 ct11), sl11⟩)
    (c11 : PySem.W.codeIn K cd11 "_law_shared" = true)
    (k11 : PySem.W.keepIn K (.ref f11) = true)
    (a12 : PySem.W.nsIn K mainGlobals "_law_caught" = some (some (.ref f12)))
    (l12 : K.lookup f12 = some ⟨oc12, od12, .func (PySem.W.fnOf "_law_caught" "_law_caught" (L2.defArgs (top 17)) (L2.defBody (top 17)) (L2.defScope (top 17)) .none kV12 dc12 pm12 an12 cd12 ct12), sl12⟩)
    (c12 : PySem.W.codeIn K cd12 "_law_caught" = true)
    (k12 : PySem.W.keepIn K (.ref f12) = true)
    (a13 : PySem.W.nsIn K mainGlobals "_law_odd_right" = some (some (.ref f13)))
    (l13 : K.lookup f13 = some ⟨oc13, od13, .func (PySem.W.fnOf "_law_odd_right" "_law_odd_right" (L2.defArgs (top 18)) (L2.defBody (top 18)) (L2.defScope (top 18)) .none kV13 dc13 pm13 an13 cd13 ct13), sl13⟩)
    (c13 : PySem.W.codeIn K cd13 "_law_odd_right" = true)
    (k13 : PySem.W.keepIn K (.ref f13) = true)
    (a14 : PySem.W.nsIn K mainGlobals "law" = some (some (.ref f14)))
    (l14 : K.lookup f14 = some ⟨oc14, od14, .func (PySem.W.fnOf "law" "law" (L2.defArgs (top 19)) (L2.defBody (top 19)) (L2.defScope (top 19)) .none kV14 dc14 pm14 an14 cd14 ct14), sl14⟩)
    (c14 : PySem.W.codeIn K cd14 "law" = true)
    (k14 : PySem.W.keepIn K (.ref f14) = true)
    (aC0 : PySem.W.nsIn K mainGlobals "ChoiceError" = some (some (.ref K0)))
    (aC1 : PySem.W.nsIn K mainGlobals "InvalidPart" = some (some (.ref K1)))
    (eC1 : PySem.W.subIn K (.ref K1) (.type "BaseException") = some true)
    (tC1 : PySem.W.typeIn K (.ref K1) = some (.type "type"))
    (iC1 : PySem.W.isClsIn K K1 = true)
    (rd0 : PySem.W.readsIn K K0 (.type "type") = true)
    (ga0 : PySem.W.specialIn K (.ref K0) "__getattribute__" = some (some (.builtin "type.__getattribute__")))
    (in0 : PySem.W.findCls K (.ref K0) (.type "type") "__init__" = some (.val (.builtin "ValueError.__init__")))
    (xL0 : K.lookup K1 = some (excClassObj gnm0 gq0 K1 gN0 gbs0 [.ref K0, .type "ValueError", .type "Exception", .type "BaseException", .type "object"] true gsn0 gsub0 gab0 gcol0 gdd0 gma0 gmb0 gmc0 gmd0 gme0 "ValueError.__new__"))
    (sa0 : PySem.W.findIn K (.ref K1) "__setattr__" = some (some (.builtin "object.__setattr__")))
    (gax0 : PySem.W.findIn K (.ref K1) "__getattribute__" = some (some (.builtin "BaseException.__getattribute__")))
    (gg0 : PySem.W.findIn K (.ref K1) "__getattr__" = some none)
    (nb0 : PySem.W.findIn K (.ref K1) "value" = some none)
    (iN0 : PySem.W.findIn K (.ref K1) "__init__" = some (some (.ref g0)))
    (tI0 : PySem.W.typeIn K (.ref g0) = some (.type "function"))
    (lI0 : K.lookup g0 = some ⟨goc0, god0, .func (PySem.W.fnOf "__init__" "InvalidPart.__init__" (L2.defArgs (clm 2 0)) (L2.defBody (clm 2 0)) (L2.defScope (clm 2 0)) .none gkV0 gdc0 gpm0 gan0 gcd0 gct0), gsl0⟩)
    (cI0 : PySem.W.codeIn K gcd0 "InvalidPart.__init__" = true)
    (kI0 : PySem.W.keepIn K (.ref g0) = true)
    (kC0 : PySem.W.keepIn K (.ref K1) = true)
    (hC0 : PySem.W.hasDictIn K K1 = true)
    (su0 : PySem.W.subIn K (.ref K1) (.ref K1) = some true)
    (hb : ∀ x ∈ bltNames, PySem.W.nsIn K mainGlobals x = some none) :
    ∃ fd : FuncData, (∀ (s : Shared) (v : Value), BindsTo s fd ⟨[v], []⟩ [("_law_script", v)]) ∧ ∀ base : Heap, K.In base → base.Ns mainGlobals mg → ∃ G : Pg, G.P = P ∧ G.w = w ∧ G.K = K ∧ G.mg = mg ∧ G.base = base ∧ G.i0 = [] ∧ FnG G 12 fa fd ["_law_script"] (spI G (runF (C 8) d_law) 1) := by
  have e := hfa.symm.trans (PySem.W.mg_of X N a14)
  cases e
  let cs : List (Str × Addr) := [("ChoiceError", K0), ("InvalidPart", K1)]
  refine ⟨PySem.W.fnOf "law" "law" (L2.defArgs (top 19)) (L2.defBody (top 19)) (L2.defScope (top 19)) .none kV14 dc14 pm14 an14 cd14 ct14, fun s v => .of_eq rfl, fun base _ _ => ⟨⟨P, w, K, mg, base, fun x => cs.lookup x, []⟩, rfl, rfl, rfl, rfl, rfl, rfl, ?_⟩⟩
  refine law_fn (h := h) (st := top 19) (D := D) (gl := gl) (isA := fun x y => isT.lookup (x, y)) (exs := exs) (cls := cls) (d := d_law) (k := 8) X N hb (fun p hp => ?_) (fun k => ?_) (fun p hp => ?_) l14 c14 k14 c_law
  · simp only [gl, List.mem_cons, List.not_mem_nil, or_false] at hp
  · refine ec_of (h := h) (cs := cs) (ps := isT) X N (by omega) (by cases k <;> rfl) (fun x y => by cases k <;> rfl) (fun x => rfl) (fun p hp => ?_) (fun p hp => ?_) (fun q hq => ?_)
    · simp only [cs, List.mem_cons, List.not_mem_nil, or_false] at hp
      rcases hp with rfl | rfl
      · exact aC0
      · exact aC1
    · simp only [exs, List.mem_cons, List.not_mem_nil, or_false] at hp
      rcases hp with rfl
      · obtain ⟨fd, z⟩ := exC_of (G := ⟨P, w, K, mg, base, fun x => cs.lookup x, []⟩) (h := h) (st := clm 2 0) (b := "ChoiceError") (pv := "value") (f := "value") (x := "InvalidPart") X N rfl aC1 aC0 ⟨rd0, ga0, in0⟩ xL0 rfl sa0 gax0 gg0 nb0 iN0 tI0 lI0 cI0 kI0 kC0 eC1 tC1 hC0 (fun _ _ _ _ _ _ us hl => match us, hl with | [_, _], _ => rfl) i_InvalidPart
        exact ⟨_, _, fd, _, z⟩
    · simp only [isT, List.mem_cons, List.not_mem_nil, or_false] at hq
      rcases hq with rfl
      · intro Cx Cy h1 h2
        have e1 : cs.lookup ("InvalidPart" : Str) = some K1 := rfl
        have e2 : cs.lookup ("InvalidPart" : Str) = some K1 := rfl
        have h1 := e1.symm.trans h1
        have h2 := e2.symm.trans h2
        cases h1
        cases h2
        exact exm_of eC1 iC1 tC1 su0
  · simp only [D, List.mem_cons, List.not_mem_nil, or_false] at hp
    rcases hp with rfl | rfl | rfl | rfl | rfl | rfl | rfl | rfl | rfl | rfl | rfl | rfl | rfl | rfl | rfl
    · exact defOk_of (h := h) (st := top 4) X N a0 l0 c0 k0 (fun _ _ _ _ _ _ us hl => match us, hl with | [_], _ => rfl) c_is_whole
    · exact defOk_of (h := h) (st := top 5) X N a1 l1 c1 k1 (fun _ _ _ _ _ _ us hl => match us, hl with | [_], _ => rfl) c_is_list
    · exact defOk_of (h := h) (st := top 6) X N a2 l2 c2 k2 (fun _ _ _ _ _ _ us hl => match us, hl with | [_], _ => rfl) c_are_numbers
    · exact defOk_of (h := h) (st := top 7) X N a3 l3 c3 k3 (fun _ _ _ _ _ _ us hl => match us, hl with | [_, _], _ => rfl) c_common_factor
    · exact defOk_of (h := h) (st := top 8) X N a4 l4 c4 k4 (fun _ _ _ _ _ _ us hl => match us, hl with | [_], _ => rfl) c_scaled
    · exact defOk_of (h := h) (st := top 9) X N a5 l5 c5 k5 (fun _ _ _ _ _ _ us hl => match us, hl with | [_, _], _ => rfl) c_product
    · exact defOk_of (h := h) (st := top 10) X N a6 l6 c6 k6 (fun _ _ _ _ _ _ us hl => match us, hl with | [_, _], _ => rfl) c_price
    · exact defOk_of (h := h) (st := top 12) X N a7 l7 c7 k7 (fun _ _ _ _ _ _ us hl => match us, hl with | [_, _], _ => rfl) c__law_cell
    · exact defOk_of (h := h) (st := top 13) X N a8 l8 c8 k8 (fun _ _ _ _ _ _ us hl => match us, hl with | [_], _ => rfl) c__law_box
    · exact defOk_of (h := h) (st := top 14) X N a9 l9 c9 k9 (fun _ _ _ _ _ _ us hl => match us, hl with | [_, _], _ => rfl) c__law_take
    · exact defOk_of (h := h) (st := top 15) X N a10 l10 c10 k10 (fun _ _ _ _ _ _ us hl => match us, hl with | [_, _], _ => rfl) c__law_row
    · exact defOk_of (h := h) (st := top 16) X N a11 l11 c11 k11 (fun _ _ _ _ _ _ us hl => match us, hl with | [_], _ => rfl) c__law_shared
    · exact defOk_of (h := h) (st := top 17) X N a12 l12 c12 k12 (fun _ _ _ _ _ _ us hl => match us, hl with | [_, _, _], _ => rfl) c__law_caught
    · exact defOk_of (h := h) (st := top 18) X N a13 l13 c13 k13 (fun _ _ _ _ _ _ us hl => match us, hl with | [], _ => rfl) c__law_odd_right
    · exact defOk_of (h := h) (st := top 19) X N a14 l14 c14 k14 (fun _ _ _ _ _ _ us hl => match us, hl with | [_], _ => rfl) c_law
end L03
set_option maxRecDepth 100000
set_option maxHeartbeats 4000000
namespace L03
open PySem PySem.Spec PyProof.Rows MP
/-! ### the law in plain words -/
def isWh : W → Bool
  | .int _ => true
  | _ => false
theorem whole_ok (k : Nat) (w : W) (h : List O) (t : String) (hw : wType w h = some t) : (C (k + 1)).cn.call "is_whole" [w] h = .ok (.bl (isWh w)) h := by
  have e : isWh w = (isiB t "int" && !isiB t "bool") := by
    cases w <;> (try (simp [wType] at hw; subst hw; rfl))
    simp only [wType] at hw
    split at hw <;> (try (cases hw; rfl))
    cases hw
  rw [call_is_whole, e]
  cases h1 : isiB t "int" <;> cases h2 : isiB t "bool" <;> simp -dsimp [runF, d_is_whole, startL, isiW, hw, h1, h2]
theorem list_ok (k : Nat) (w : W) (h : List O) (t : String) (hw : wType w h = some t) : (C (k + 1)).cn.call "is_list" [w] h = .ok (.bl (t == "list" || t == "tuple")) h := by
  rw [call_is_list]
  have e : ∀ s : String, isiB t "list" = (t == "list") ∧ isiB t "tuple" = (t == "tuple") := fun _ => by
    unfold isiB; simp
  simp -dsimp [runF, d_is_list, startL, isiW, hw, (e "").1, (e "").2]
theorem lc_gs {α : Type} {f : W → List O → R (Option W)} {a : α → W} {g : α → W} {gs : Gd} {h : List O} {xs : List α} {n : Nat} (hg : gsOk h gs = true) (hf : ∀ x ∈ xs, f (a x) h = .ok (some (g x)) h) (hl : n + xs.length ≤ 16777216) : lcLoop f gs n (xs.map a) h = .ok (xs.map g) h := by
  induction xs generalizing n with
  | nil => show chk (gsOk h gs) _ = _; rw [hg]; rfl
  | cons x xs ih =>
    rw [List.length_cons] at hl
    show chk (gsOk h gs) ((noX (f (a x) h)).bind fun o h1 => match o with
      | some y => chk (decide (n < sizeLine)) ((lcLoop f gs (n + 1) (xs.map a) h1).bind fun r h2 => .ok (y :: r) h2)
      | none => lcLoop f gs n (xs.map a) h1) = _
    rw [hg, hf x List.mem_cons_self]
    show chk (decide (n < sizeLine)) ((lcLoop f gs (n + 1) (xs.map a) h).bind fun r h2 => .ok (g x :: r) h2) = _
    rw [chk_lt (by omega), ih (fun y hy => hf y (List.mem_cons_of_mem _ hy)) (by omega)]
    rfl
theorem all_bl (bs : List W) (f : W → Bool) (h : List O) : bltL "all" (bs.map fun w => .bl (f w)) h = .ok (.bl (bs.all f)) h := by
  have e : unBls (bs.map fun w => W.bl (f w)) = some (bs.map f) := by
    induction bs with
    | nil => rfl
    | cons b bs ih => rw [List.map_cons, unBls, ih]; rfl
  unfold bltL
  rw [if_pos rfl, e]
  simp [List.all_map]
/-- a list or a tuple of things of known kinds -/
theorem nums_seq (k : Nat) (w : W) (ws : List W) (gs : Gd) (h : List O) (t : String) (hw : wType w h = some t) (ht : (t == "list" || t == "tuple") = true) (hq : seqO true h (.inr w) = .ok (ws, gs) h) (hg : gsOk h gs = true) (hl : ws.length ≤ 1000) (hk : ∀ x ∈ ws, ∃ t, wType x h = some t) :
    (C (k + 2)).cn.call "are_numbers" [w] h = .ok (.bl (ws.all isWh)) h := by
  rw [call_are_numbers]
  have e1 := list_ok k w h t hw
  rw [ht] at e1
  have lc : lcLoop (lcBody (C (k + 1)).cn (.call "is_whole" (.cons (.var 2) .nil)) (.name 2) .none [some w, none, none]) gs 0 ws h = .ok (ws.map fun x => .bl (isWh x)) h := by
    have z := lc_gs (f := lcBody (C (k + 1)).cn (.call "is_whole" (.cons (.var 2) .nil)) (.name 2) .none [some w, none, none]) (a := id) (g := fun x => .bl (isWh x)) (n := 0) hg (xs := ws) (fun x hx => by
      obtain ⟨t, e⟩ := hk x hx
      simp -dsimp [lcBody, whole_ok k x h t e]) (by omega)
    rwa [List.map_id] at z
  simp -dsimp [runF, d_are_numbers, startL, e1, wipeL, hq, lc, all_bl]
theorem nums_no (k : Nat) (w : W) (h : List O) (t : String) (hw : wType w h = some t) (ht : (t == "list" || t == "tuple") = false) : (C (k + 2)).cn.call "are_numbers" [w] h = .ok (.bl false) h := by
  rw [call_are_numbers]
  have e1 := list_ok k w h t hw
  rw [ht] at e1
  simp -dsimp [runF, d_are_numbers, startL, e1]
theorem all_ints (ns : List Int) : (ns.map W.int).all isWh = true := by
  rw [List.all_map]
  exact List.all_eq_true.mpr fun _ _ => rfl
theorem kinds_ints (ns : List Int) (h : List O) : ∀ x ∈ ns.map W.int, ∃ t, wType x h = some t := fun x hx => by
  obtain ⟨n, _, rfl⟩ := List.mem_map.mp hx
  exact ⟨_, rfl⟩
theorem nums_t (k : Nat) (ns : List Int) (h : List O) (hl : ns.length ≤ 1000) : (C (k + 2)).cn.call "are_numbers" [tpI ns] h = .ok (.bl true) h := by
  rw [nums_seq k (tpI ns) (ns.map W.int) [] h "tuple" rfl (by decide) rfl rfl (by simpa using hl) (kinds_ints ns h), all_ints]
theorem nums_l (k : Nat) (ns : List Int) (h : List O) (hl : ns.length ≤ 1000) : (C (k + 2)).cn.call "are_numbers" [lsI ns] h = .ok (.bl true) h := by
  rw [nums_seq k (lsI ns) (ns.map W.int) [] h "list" rfl (by decide) rfl rfl (by simpa using hl) (kinds_ints ns h), all_ints]
/-! ### common divisors -/
theorem mod_nat (a b : Nat) : Int.fmod (a : Int) (b : Int) = ((a % b : Nat) : Int) := by
  rw [Int.fmod_eq_emod_of_nonneg _ (by omega)]
  exact (Int.natCast_emod a b).symm
theorem gcd_step (a b : Nat) : Nat.gcd b (a % b) = Nat.gcd a b := by
  rw [Nat.gcd_comm b, ← Nat.gcd_rec, Nat.gcd_comm]
abbrev cfB : Mss := (.cons (.par 0 1 (.var 1) (.bin .Mod (.var 0) (.var 1))) .nil)
theorem cf_while (k : Nat) (h : List O) : ∀ (n a b : Nat), b < n → whileL (ev (C k).cn (.cmp .Gt (.var 1) (.int 0))).t (evSs (C k) cfB) n [some (.int a), some (.int b)] h = .ok .nx [some (.int (Nat.gcd a b : Nat)), some (.int 0)] h
  | 0, a, b, hb => absurd hb (Nat.not_lt_zero _)
  | n + 1, a, b, hb => by
    rw [while_s]
    by_cases z : b = 0
    · subst z
      simp -dsimp
    · have hb0 : (0 : Int) < (b : Int) := by omega
      have hn : ((b : Int) ≠ 0) := by omega
      have ih := cf_while k h n b (a % b) (by have := Nat.mod_lt a (show b > 0 by omega); omega)
      rw [gcd_step] at ih
      have e : (ev (C k).cn (.cmp .Gt (.var 1) (.int 0))).t [some (.int a), some (.int b)] h = .ok true h := by simp -dsimp [show 0 < b by omega]
      have e2 : evSs (C k) cfB [some (.int a), some (.int b)] h = .ok .nx [some (.int b), some (.int (a % b : Nat))] h := by simp -dsimp [hn, z, mod_nat]
      rw [e, liftE_ok, if_pos rfl, e2, turnS_nx, ih]
theorem cf_ok (k a b : Nat) (h : List O) (hb : b < 10 ^ 60) : (C (k + 1)).cn.call "common_factor" [.int a, .int b] h = .ok (.int (Nat.gcd a b : Nat)) h := by
  have hf : (C k).cn.fuel = 10 ^ 60 := by cases k <;> rfl
  have e := cf_while k h (10 ^ 60) a b hb
  rw [call_common_factor]
  rw [runF_of rfl]
  show endF (seqS (whileL (ev (C k).cn (.cmp .Gt (.var 1) (.int 0))).t (evSs (C k) cfB) (C k).cn.fuel [some (.int a), some (.int b)] h) (evSs (C k) (.cons (.ret (.var 0)) .nil))) = _
  rw [hf, e, seqS_nx]
  simp -dsimp
def gc0 (g : Nat) (n : Int) : Nat := Nat.gcd g n.natAbs
def gcs (ns : List Int) : Nat := ns.foldl gc0 0
theorem abs_eq (i : Int) : (if i < 0 then -i else i) = (i.natAbs : Int) := by split <;> omega
theorem gc0_lt {g : Nat} {n : Int} {m : Nat} (hg : g < m) (hn : n.natAbs < m) : gc0 g n < m := by
  unfold gc0
  by_cases z : g = 0
  · rw [z, Nat.gcd_zero_left]; exact hn
  · exact Nat.lt_of_le_of_lt (Nat.gcd_le_left _ (by omega)) hg
theorem fold_lt {m : Nat} : ∀ {ns : List Int} {g : Nat}, g < m → (∀ n ∈ ns, n.natAbs < m) → ns.foldl gc0 g < m
  | [], g, hg, _ => hg
  | n :: ns, g, hg, hn => by
    rw [List.foldl_cons]
    exact fold_lt (ns := ns) (g := gc0 g n) (gc0_lt hg (hn n List.mem_cons_self)) fun x hx => hn x (List.mem_cons_of_mem _ hx)
def top1 (g : Nat) : Int := if (g : Int) > 1 then g else 1
theorem div_top {g : Nat} (h : g < 2 ^ 250) : divOk (top1 g) = true := by
  unfold divOk top1
  split
  · have a : (g : Int).natAbs.log2 < 9000 := by
      have z : g ≠ 0 := by omega
      have := (Nat.log2_lt z).mpr h
      simp only [Int.natAbs_natCast]
      omega
    rw [decide_eq_true (p := 0 < (g : Int) ∧ (g : Int).natAbs.log2 < 9000) ⟨by omega, a⟩]
    simp
  · decide
/-- integers that are not too great -/
def Mid (ns : List Int) : Prop := ns.length ≤ 100 ∧ ∀ n ∈ ns, n.natAbs < 2 ^ 190
def due (ns : List Int) : List Int := ns.map fun n => n.fdiv (top1 (gcs ns))
end L03
set_option maxRecDepth 100000
set_option maxHeartbeats 4000000
namespace L03
open PySem PySem.Spec PyProof.Rows MP
theorem bound_lt (n : Int) (h : n.natAbs < 2 ^ 190) : n.natAbs < 10 ^ 60 := by
  have : (2 : Nat) ^ 190 < 10 ^ 60 := by decide
  omega
theorem wt_seq {w : W} {ns : List Int} (hw : w = tpI ns ∨ w = lsI ns) (h : List O) : seqO true h (.inr w) = .ok (ns.map W.int, []) h := by
  rcases hw with rfl | rfl <;> rfl
theorem nums_w (k : Nat) {w : W} {ns : List Int} (hw : w = tpI ns ∨ w = lsI ns) (h : List O) (hl : ns.length ≤ 1000) : (C (k + 2)).cn.call "are_numbers" [w] h = .ok (.bl true) h := by
  rcases hw with rfl | rfl
  · exact nums_t k ns h hl
  · exact nums_l k ns h hl
theorem scaled_ok (k : Nat) {w : W} {ns : List Int} (hw : w = tpI ns ∨ w = lsI ns) (h : List O) (hm : Mid ns) : (C (k + 3)).cn.call "scaled" [w] h = .ok (tpI (due ns)) h := by
  have e1 := nums_w k hw h (by have := hm.1; omega)
  have hs := wt_seq hw h
  rw [call_scaled]
  obtain ⟨o, e2⟩ := for_fold (f := forBody (C (k + 2)) (.name 2) (.cons (.asg (.name 1) (.call "common_factor" (.cons (.var 1) (.cons (.blt "abs" (.cons (.var 2) .nil)) .nil)))) .nil)) (a := W.int) (st := fun (b : Nat) o => [some w, some (.int b), o, none]) (g := gc0) (h := h) (xs := ns) (b := 0) (o := none)
    (fun x hx b o => ⟨some (.int x), by
      have ec := cf_ok (k + 1) b x.natAbs h (bound_lt x (hm.2 x hx))
      rw [← abs_eq] at ec
      simp -dsimp [forBody, ec, gc0]⟩)
  have hg : gcs ns < 2 ^ 190 := fold_lt (by decide) hm.2
  have hd := div_top (g := gcs ns) (Nat.lt_of_lt_of_le hg (by decide))
  have mxe : ∀ h, bltV "max" [.int 1, .int (gcs ns : Nat)] h = .ok (.int (top1 (gcs ns))) h := fun h => by rw [mx]; rfl
  have lc : lcLoop (lcBody (C (k + 2)).cn (.bin .FloorDiv (.var 2) (.blt "max" (.cons (.int 1) (.cons (.var 1) .nil)))) (.name 2) .none [some w, some (.int (gcs ns : Nat)), none, none]) [] 0 (ns.map W.int) h = .ok ((due ns).map W.int) h := by
    rw [lc_mapA (g := fun n => W.int (n.fdiv (top1 (gcs ns)))) (fun x hx => by simp -dsimp [lcBody, mxe, chk_of hd, -MP.mx]) (by have := hm.1; omega)]
    unfold due
    rw [List.map_map]
    rfl
  have e2' : forL (forBody (C (k + 2)) (.name 2) (.cons (.asg (.name 1) (.call "common_factor" (.cons (.var 1) (.cons (.blt "abs" (.cons (.var 2) .nil)) .nil)))) .nil)) [] (ns.map W.int) [some w, some (.int 0), none, none] h = .ok .nx [some w, some (.int (gcs ns : Nat)), o, none] h := e2
  simp -dsimp [runF, d_scaled, startL, e1, hs, e2', wipeL, seqR, lc]
theorem zip_ints : ∀ a b : List Int, zipW (a.map W.int) (b.map W.int) = (a.zip b).map fun p => .tup [.int p.1, .int p.2]
  | [], _ => rfl
  | _ :: _, [] => rfl
  | a :: as, b :: bs => by rw [List.map_cons, List.map_cons, zipW, zip_ints as bs]; rfl
theorem unInts_map (ns : List Int) : unInts (ns.map W.int) = some ns := by
  induction ns with
  | nil => rfl
  | cons n ns ih => rw [List.map_cons, unInts, ih]; rfl
theorem sum_ints (ns : List Int) (h : List O) : bltL "sum" (ns.map W.int) h = .ok (.int ns.sum) h := by
  unfold bltL
  rw [if_neg (by decide), if_neg (by decide), if_pos rfl, unInts_map]
def prod (a b : List Int) : Int := ((a.zip b).map fun p => p.1 * p.2).sum
theorem zip_mid {a b : List Int} (ha : Mid a) (hb : Mid b) : ∀ p ∈ a.zip b, mulOk p.1 p.2 = true := fun p hp => by
  obtain ⟨h1, h2⟩ := List.of_mem_zip (a := p.1) (b := p.2) hp
  exact mul_wide (Nat.lt_of_lt_of_le (ha.2 _ h1) (by decide)) (Nat.lt_of_lt_of_le (hb.2 _ h2) (by decide))
theorem sum_lc (C : Cn) (i j : Nat) (ℓ : Lo) {a b : List Int} (h : List O) (ha : Mid a) (hb : Mid b) (hi : ∀ p : Int × Int, (evt C (.tup (.cons (.name i) (.cons (.name j) .nil))) (.tup [.int p.1, .int p.2]) ℓ h) = .ok ((ℓ.set i (some (.int p.1))).set j (some (.int p.2))) h)
    (hx : ∀ p : Int × Int, getL ((ℓ.set i (some (.int p.1))).set j (some (.int p.2))) i = some (.int p.1)) (hy : ∀ p : Int × Int, getL ((ℓ.set i (some (.int p.1))).set j (some (.int p.2))) j = some (.int p.2)) :
    lcLoop (lcBody C (.bin .Mult (.var i) (.var j)) (.tup (.cons (.name i) (.cons (.name j) .nil))) .none ℓ) [] 0 (zipW (a.map W.int) (b.map W.int)) h = .ok (((a.zip b).map fun p => p.1 * p.2).map W.int) h := by
  rw [zip_ints, lc_mapA (g := fun p : Int × Int => W.int (p.1 * p.2)) (fun p hp => by
    unfold lcBody
    rw [hi p, R.bind_ok, evf_none, R.bind_ok, ifR_t, v_bin, MP.v_var, hx p, ofO_some, R.bind_ok, MP.v_var, hy p, ofO_some, R.bind_ok, b_mul, chk_of (zip_mid ha hb p hp), R.bind_ok]) (by
      rw [List.length_zip]; have := ha.1; omega), List.map_map]
  rfl
def Seq (w : W) (ns : List Int) (t : Bool) : Prop := if t = true then w = tpI ns else w = lsI ns
theorem Seq.or {w : W} {ns : List Int} {t : Bool} (h : Seq w ns t) : w = tpI ns ∨ w = lsI ns := by
  unfold Seq at h
  split at h
  · exact .inl h
  · exact .inr h
theorem zip_src {C : Cn} {i j : Nat} {ℓ : Lo} {h : List O} {w v : W} {a b : List Int} {t : Bool} (hw : Seq w a t) (hv : Seq v b t) (e1 : getL ℓ i = some w) (e2 : getL ℓ j = some v) : evi C (.zip (.var i) (.var j)) ℓ h = .ok (zipW (a.map W.int) (b.map W.int), []) h := by
  rw [evi_zip, o_var, e1, ofO_some, R.bind_ok, R.bind_ok, o_var, e2, ofO_some, R.bind_ok, R.bind_ok]
  cases t with
  | true => cases (show w = tpI a from hw); cases (show v = tpI b from hv); rfl
  | false => cases (show w = lsI a from hw); cases (show v = lsI b from hv); rfl
theorem product_ok (k : Nat) {w v : W} {a b : List Int} {t : Bool} (hw : Seq w a t) (hv : Seq v b t) (ha : Mid a) (hb : Mid b) (h : List O) : (C (k + 1)).cn.call "product" [w, v] h = .ok (.int (prod a b)) h := by
  rw [call_product, runF_of rfl]
  have e1 : evi (C k).cn (.zip (.var 0) (.var 1)) [some w, some v, none, none, none] h = _ := zip_src hw hv rfl rfl
  have e2 := sum_lc (C k).cn 3 4 [some w, some v, none, none, none] h ha hb (fun p => by simp -dsimp [seqW]) (fun p => by simp) (fun p => by simp)
  simp -dsimp [d_product, startL, e1, wipeL, e2, sum_ints, prod, -List.map_map]
theorem len_w {w : W} {ns : List Int} (hw : w = tpI ns ∨ w = lsI ns) (h : List O) : lenW w h = .ok (.int ns.length) h := by
  rcases hw with rfl | rfl <;> simp
theorem price_ok (k : Nat) {w v : W} {a b : List Int} {t : Bool} (hw : Seq w a t) (hv : Seq v b t) (ha : Mid a) (hb : Mid b) (hl : a.length = b.length) (h : List O) : (C (k + 3)).cn.call "price" [w, v] h = .ok (.int (prod a b)) h := by
  have e1 := nums_w k hw.or h (by have := ha.1; omega)
  have e2 := nums_w k hv.or h (by have := hb.1; omega)
  have e3 := product_ok (k + 1) hw hv ha hb h
  have l1 := len_w hw.or h
  have l2 := len_w hv.or h
  rw [call_price]
  simp -dsimp [runF, d_price, startL, e1, e2, e3, l1, l2, hl]
end L03
set_option maxRecDepth 100000
set_option maxHeartbeats 4000000
namespace L03
open PySem PySem.Spec PyProof.Rows MP
theorem take_c (k : Nat) (h : List O) (b n : Nat) (m : Int) (hb : Bx b n h) (hm : divOk m = true) (hm0 : 0 < m) (hn : n < 100000000) :
    ∃ r h', (C (k + 1)).cn.call "_law_take" [.ref b, .int m] h = .ok (.int r) h' ∧ 0 ≤ r ∧ r < m ∧ Bx b (n + 1) h' ∧ Bd b h h' := by
  rw [call__law_take, runF_of rfl]
  exact takeT_ok (C k) 15489793 1787 (by omega) (by omega) h b n m hb hm hm0 hn
theorem cell_c (k : Nat) (h : List O) (ns : List Int) (i : Nat) : ∃ c, (C (k + 1)).cn.call "_law_cell" [.slst (ns.map W.int), .int i] h = .ok (.int c) h := by
  rw [call__law_cell, runF_of rfl]
  exact cellT_ok (C k) 15489793 1787 (by omega) h ns i
theorem box_c (k : Nat) (h : List O) (c : Int) : ∃ x y, (C (k + 1)).cn.call "_law_box" [.int c] h = .ok (.ref h.length) (h ++ [.lst [.int x, .int y, .int 0]]) ∧ Bx h.length 0 (h ++ [.lst [.int x, .int y, .int 0]]) := by
  rw [call__law_box, runF_of rfl]
  exact boxT_ok (C k) h c
theorem wide_ok (r : Int) (h0 : 0 ≤ r) (h1 : r < 4) (C : Cn) (h : List O) : ∃ m : Int, L2.atI [W.int 4, .int 100, .int 1000000000000, .int 10000000000000000000000000000] r = some (.int m) ∧ divOk m = true ∧ 4 ≤ m ∧ m ≤ 10 ^ 28 := by
  have : r = 0 ∨ r = 1 ∨ r = 2 ∨ r = 3 := by omega
  rcases this with rfl | rfl | rfl | rfl
  · exact ⟨4, rfl, by decide, by decide, by decide⟩
  · exact ⟨100, rfl, by decide, by decide, by decide⟩
  · exact ⟨1000000000000, rfl, by decide, by decide, by decide⟩
  · exact ⟨10000000000000000000000000000, rfl, by decide +kernel, by decide, by decide⟩
abbrev WL : Mes := (.cons (.int 4) (.cons (.int 100) (.cons (.bin .Pow (.int 10) (.int 12)) (.cons (.bin .Pow (.int 10) (.int 28)) .nil))))
theorem wl_ok (C : Cn) (ℓ : Lo) (h : List O) : evs C WL ℓ h = .ok [.int 4, .int 100, .int 1000000000000, .int 10000000000000000000000000000] h := by
  have p1 : powOk 10 12 = true := by decide
  have p2 : powOk 10 28 = true := by decide
  rw [evs_cons, v_int, R.bind_ok, evs_cons, v_int, R.bind_ok, evs_cons, v_bin, v_int, R.bind_ok, v_int, R.bind_ok, b_pow, chk_of p1, R.bind_ok, evs_cons, v_bin, v_int, R.bind_ok, v_int, R.bind_ok, b_pow, chk_of p2, R.bind_ok]
  rfl
abbrev RE : Me := (.bin .Mult (.bin .Sub (.call "_law_take" (.cons (.var 0) (.cons (.var 3) .nil))) (.bin .FloorDiv (.var 3) (.int 2))) (.var 2))
theorem row_bd {x m f : Int} (x0 : 0 ≤ x) (x1 : x < m) (f0 : 0 ≤ f) (f1 : f < 12) (m0 : 4 ≤ m) (m1 : m ≤ 10 ^ 28) : ((x - m.fdiv 2) * (1 + f)).natAbs < 2 ^ 190 := by
  have f2 : m.fdiv 2 = m / 2 := Int.fdiv_eq_ediv_of_nonneg _ (by omega)
  rw [f2]
  have a1 : (x - m / 2).natAbs ≤ 10 ^ 28 := by omega
  have a2 : (1 + f).natAbs ≤ 12 := by omega
  rw [Int.natAbs_mul]
  exact Nat.lt_of_le_of_lt (Nat.mul_le_mul a1 a2) (by decide)
theorem row_mo {x m f : Int} (x0 : 0 ≤ x) (x1 : x < m) (f0 : 0 ≤ f) (f1 : f < 12) (m0 : 4 ≤ m) (m1 : m ≤ 10 ^ 28) : mulOk (x - m.fdiv 2) (1 + f) = true := by
  have f2 : m.fdiv 2 = m / 2 := Int.fdiv_eq_ediv_of_nonneg _ (by omega)
  rw [f2]
  exact mul_small2 (by omega) (by omega)
theorem row_el (k : Nat) (h : List O) (b n many : Nat) (m f : Int) (o4 o5 : Option W) (w : W) (hb : Bx b n h) (hn : n < 100000000) (f0 : 0 ≤ f) (f1 : f < 12) (m0 : 4 ≤ m) (m1 : m ≤ 10 ^ 28) (hm : divOk m = true) :
    ∃ y h', lcBody (C (k + 1)).cn RE (.name 5) .none [some (.ref b), some (.int many), some (.int (1 + f)), some (.int m), o4, o5] w h = .ok (some y) h' ∧ (Bx b (n + 1) h' ∧ Bd b h h') ∧ ∃ i, y = .int i ∧ i.natAbs < 2 ^ 190 := by
  obtain ⟨x, h3, q3, x0, x1, b3, d3⟩ := take_c k h b n m hb hm (by omega) hn
  have mo := row_mo x0 x1 f0 f1 m0 m1
  have bd := row_bd x0 x1 f0 f1 m0 m1
  have d2 : divOk 2 = true := by decide
  refine ⟨.int ((x - m.fdiv 2) * (1 + f)), h3, ?_, ⟨b3, d3⟩, _, rfl, bd⟩
  clear bd m1 x1 m0 x0
  simp -dsimp [lcBody, q3, chk_of mo, chk_of d2]
theorem row_lc (k : Nat) (h : List O) (b n many : Nat) (m f : Int) (hb : Bx b n h) (hn : n + many < 10000000) (f0 : 0 ≤ f) (f1 : f < 12) (m0 : 4 ≤ m) (m1 : m ≤ 10 ^ 28) (hm : divOk m = true) :
    ∃ (ns : List Int) (h' : List O), lcLoop (lcBody (C (k + 1)).cn RE (.name 5) .none [some (.ref b), some (.int many), some (.int (1 + f)), some (.int m), none, none]) [] 0 (rngL 0 many) h = .ok (ns.map .int) h' ∧ ns.length = many ∧ (∀ x ∈ ns, x.natAbs < 2 ^ 190) ∧ Bx b (n + many) h' ∧ Bd b h h' := by
  have hlen : (rngL 0 many).length = many := by unfold rngL; simp
  obtain ⟨ys, h3, q3, ⟨b3, d3⟩, l3, y3⟩ := lc_draw (f := lcBody (C (k + 1)).cn RE (.name 5) .none [some (.ref b), some (.int many), some (.int (1 + f)), some (.int m), none, none]) (I := fun j h' => Bx b (n + j) h' ∧ Bd b h h') (Y := fun y => ∃ i, y = .int i ∧ i.natAbs < 2 ^ 190) (ws := rngL 0 many) (n := 0) (k := 0) (h := h)
    (fun w _ j hh _ hj ⟨bj, dj⟩ => by
      rw [hlen] at hj
      obtain ⟨y, h3, q, ⟨b3, d3⟩, e⟩ := row_el k hh b (n + j) many m f none none w bj (by omega) f0 f1 m0 m1 hm
      exact ⟨y, h3, q, ⟨b3, dj.trans d3⟩, e⟩) (by omega) ⟨hb, .refl⟩
  obtain ⟨ns, rfl, hns⟩ := ints_of y3
  rw [hlen, List.length_map] at l3
  refine ⟨ns, h3, q3, l3, hns, ?_, d3⟩
  rw [hlen] at b3
  rw [show n + many = n + (0 + many) by omega]
  exact b3
theorem row_fin (k : Nat) (h h1 h2 h3 : List O) (b many : Nat) (f r m : Int) (ns : List Int) (q1 : (C (k + 1)).cn.call "_law_take" [.ref b, .int 12] h = .ok (.int f) h1) (q2 : (C (k + 1)).cn.call "_law_take" [.ref b, .int 4] h1 = .ok (.int r) h2)
    (em : L2.atI [W.int 4, .int 100, .int 1000000000000, .int 10000000000000000000000000000] r = some (.int m))
    (q3 : lcLoop (lcBody (C (k + 1)).cn RE (.name 5) .none [some (.ref b), some (.int many), some (.int (1 + f)), some (.int m), none, none]) [] 0 (rngL 0 many) h2 = .ok (ns.map W.int) h3) (hn : many < 1000000) :
    (C (k + 2)).cn.call "_law_row" [.ref b, .int many] h = .ok (lsI ns) h3 := by
  rw [call__law_row, runF_of rfl]
  have z4 : decide (4 ≤ sizeLine) = true := decide_eq_true (by rw [sizeLine_eq]; omega)
  have a1 : evS (C (k + 1)) (.asg (.name 2) (.bin .Add (.int 1) (.call "_law_take" (.cons (.var 0) (.cons (.int 12) .nil))))) [some (.ref b), some (.int many), none, none, none, none] h = .ok .nx [some (.ref b), some (.int many), some (.int (1 + f)), none, none, none] h1 := by
    simp -dsimp [q1]
  have a2 : (ev (C (k + 1)).cn (.sub (.lst WL) (.call "_law_take" (.cons (.var 0) (.cons (.int 4) .nil))))).v [some (.ref b), some (.int many), some (.int (1 + f)), none, none, none] h1 = .ok (.int m) h2 := by
    rw [MP.v_sub, o_lst, wl_ok, R.bind_ok]
    show R.bind (R.bind (chk (decide (4 ≤ sizeLine)) _) _) _ = _
    rw [chk_of z4, R.bind_ok, R.bind_ok]
    have e : (ev (C (k + 1)).cn (.call "_law_take" (.cons (.var 0) (.cons (.int 4) .nil)))).v [some (.ref b), some (.int many), some (.int (1 + f)), none, none, none] h1 = .ok (.int r) h2 := by simp -dsimp [q2]
    rw [e, R.bind_ok]
    show ofO (L2.atI [W.int 4, .int 100, .int 1000000000000, .int 10000000000000000000000000000] r) h2 = _
    rw [em]
    rfl
  have a3 : (ev (C (k + 1)).cn (.frz (.lcomp RE (.name 5) (.range (.cons (.var 1) .nil)) .none [4, 5]))).v [some (.ref b), some (.int many), some (.int (1 + f)), some (.int m), none, none] h2 = .ok (lsI ns) h3 := by
    have e : (ev (C (k + 1)).cn (.var 1)).v [some (.ref b), some (.int many), some (.int (1 + f)), some (.int m), none, none] h2 = .ok (.int (many : Int)) h2 := by simp -dsimp
    rw [v_frz, l_lcomp, rng1_of e hn, R.bind_ok]
    show R.bind (lcLoop (lcBody (C (k + 1)).cn RE (.name 5) .none [some (.ref b), some (.int many), some (.int (1 + f)), some (.int m), none, none]) [] 0 (rngL 0 many) h2) _ = _
    rw [q3]
    rfl
  show gcF false h (endF (evSs (C (k + 1)) (.cons _ (.cons _ (.cons _ .nil))) [some (.ref b), some (.int many), none, none, none, none] h)) = _
  rw [ss_cons, a1, seqS_nx, ss_cons, s_asg_, a2, liftE_ok]
  show gcF false h (endF (seqS (.ok .nx [some (.ref b), some (.int many), some (.int (1 + f)), some (.int m), none, none] h2) _)) = _
  rw [seqS_nx, ss_one, s_ret_, a3, liftE_ok]
  rfl
theorem row_ok (k : Nat) (h : List O) (b n : Nat) (many : Nat) (hb : Bx b n h) (hn : n + many < 1000000) : ∃ ns h', (C (k + 2)).cn.call "_law_row" [.ref b, .int many] h = .ok (lsI ns) h' ∧ ns.length = many ∧ (∀ x ∈ ns, x.natAbs < 2 ^ 190) ∧ Bx b (n + 2 + many) h' ∧ Bd b h h' := by
  obtain ⟨f, h1, q1, f0, f1, b1, d1⟩ := take_c k h b n 12 hb (by decide) (by omega) (by omega)
  obtain ⟨r, h2, q2, r0, r1, b2, d2⟩ := take_c k h1 b (n + 1) 4 b1 (by decide) (by omega) (by omega)
  obtain ⟨m, em, dm, m0, m1⟩ := wide_ok r r0 r1 (C (k + 1)).cn h2
  obtain ⟨ns, h3, q3, l3, hns, b3, d3⟩ := row_lc k h2 b (n + 2) many m f b2 (by omega) f0 f1 m0 m1 dm
  refine ⟨ns, h3, ?_, l3, hns, b3, (d1.trans d2).trans d3⟩
  exact row_fin k h h1 h2 h3 b many f r m ns q1 q2 em q3 (by omega)
abbrev shB : Mss := (.cons (.par 1 3 (.var 3) (.bin .Mod (.var 1) (.var 3))) .nil)
theorem sh_while (k : Nat) (r x : Option W) (h : List O) : ∀ (n a b : Nat), b < n → whileL (ev (C k).cn (.cmp .NotEq (.var 3) (.int 0))).t (evSs (C k) shB) n [r, some (.int a), x, some (.int b)] h = .ok .nx [r, some (.int (Nat.gcd a b : Nat)), x, some (.int 0)] h
  | 0, a, b, hb => absurd hb (Nat.not_lt_zero _)
  | n + 1, a, b, hb => by
    rw [while_s]
    by_cases z : b = 0
    · subst z
      simp -dsimp
    · have hn : ((b : Int) ≠ 0) := by omega
      have ih := sh_while k r x h n b (a % b) (by have := Nat.mod_lt a (show b > 0 by omega); omega)
      rw [gcd_step] at ih
      have e : (ev (C k).cn (.cmp .NotEq (.var 3) (.int 0))).t [r, some (.int a), x, some (.int b)] h = .ok true h := by simp -dsimp [z]
      have e2 : evSs (C k) shB [r, some (.int a), x, some (.int b)] h = .ok .nx [r, some (.int b), x, some (.int (a % b : Nat))] h := by simp -dsimp [hn, z, mod_nat]
      rw [e, liftE_ok, if_pos rfl, e2, turnS_nx, ih]
theorem shared_ok (k : Nat) (ns : List Int) (h : List O) (hm : ∀ n ∈ ns, n.natAbs < 2 ^ 190) : (C (k + 1)).cn.call "_law_shared" [lsI ns] h = .ok (.int (gcs ns : Nat)) h := by
  have hf : (C k).cn.fuel = 10 ^ 60 := by cases k <;> rfl
  obtain ⟨o, e2⟩ := for_fold (f := forBody (C k) (.name 2) (.cons (.asg (.name 3) (.blt "abs" (.cons (.var 2) .nil))) (.cons (.while (.cmp .NotEq (.var 3) (.int 0)) shB) .nil))) (a := W.int) (st := fun (b : Nat) (o : Option W × Option W) => [some (lsI ns), some (.int b), o.1, o.2]) (g := gc0) (h := h) (xs := ns) (b := 0) (o := (none, none))
    (fun x hx b o => ⟨(some (.int x), some (.int 0)), by
      have ec := sh_while k (some (lsI ns)) (some (.int x)) h (10 ^ 60) b x.natAbs (bound_lt x (hm x hx))
      rw [← abs_eq] at ec
      simp -dsimp [forBody, hf, ec, gc0]⟩)
  have e2' : forL (forBody (C k) (.name 2) (.cons (.asg (.name 3) (.blt "abs" (.cons (.var 2) .nil))) (.cons (.while (.cmp .NotEq (.var 3) (.int 0)) shB) .nil))) [] (ns.map W.int) [some (lsI ns), some (.int 0), none, none] h = .ok .nx [some (lsI ns), some (.int (gcs ns : Nat)), o.1, o.2] h := e2
  rw [call__law_shared]
  simp -dsimp [runF, d__law_shared, startL, e2']
/-! ### what is refused -/
abbrev IP (w : W) : Exn := ⟨"InvalidPart", [("value", w)]⟩
theorem scaled_no (k : Nat) (w : W) (h : List O) (hw : (C (k + 2)).cn.call "are_numbers" [w] h = .ok (.bl false) h) : (C (k + 3)).cn.call "scaled" [w] h = .exc (IP w) h := by
  rw [call_scaled]
  simp -dsimp [runF, d_scaled, startL, hw]
theorem price_no1 (k : Nat) (w v : W) (h : List O) (hw : (C (k + 2)).cn.call "are_numbers" [w] h = .ok (.bl false) h) : (C (k + 3)).cn.call "price" [w, v] h = .exc (IP w) h := by
  rw [call_price]
  simp -dsimp [runF, d_price, startL, hw]
theorem price_no2 (k : Nat) {w : W} {a : List Int} (hw : w = tpI a ∨ w = lsI a) (ha : a.length ≤ 1000) (v : W) (h : List O) (hv : (C (k + 2)).cn.call "are_numbers" [v] h = .ok (.bl false) h) : (C (k + 3)).cn.call "price" [w, v] h = .exc (IP v) h := by
  have e1 := nums_w k hw h ha
  rw [call_price]
  simp -dsimp [runF, d_price, startL, e1, hv]
theorem price_no3 (k : Nat) {w v : W} {a b : List Int} (hw : w = tpI a ∨ w = lsI a) (hv : v = tpI b ∨ v = lsI b) (ha : a.length ≤ 1000) (hb : b.length ≤ 1000) (hl : a.length ≠ b.length) (h : List O) : (C (k + 3)).cn.call "price" [w, v] h = .exc (IP v) h := by
  have e1 := nums_w k hw h ha
  have e2 := nums_w k hv h hb
  have l1 := len_w hw h
  have l2 := len_w hv h
  rw [call_price]
  have hl2 : ((b.length : Int) == (a.length : Int)) = false := by rw [beq_eq_false_iff_ne]; omega
  simp -dsimp [runF, d_price, startL, e1, e2, l1, l2, hl2]
theorem catch_ok (k : Nat) (w : W) (ℓ : Lo) (h : List O) : catchS (C k) (IP w) [⟨"InvalidPart", 3, [.lit "part", .fld "value"]⟩] ℓ h = .ok (.rt (.slst [.str "part", w])) ℓ h := by
  refine catch_yes (C k) ℓ h (isA_InvalidPart_InvalidPart k) ?_ (by rw [sizeLine_eq]; simp)
  have e : hxW (C k) (IP w) [.fld "value"] = some [w] := by
    rw [hxW, if_pos (by rw [C_exs]; exact in_InvalidPart)]
    rfl
  rw [hxW, e]
  rfl
theorem caught_0 (k : Nat) (w o v : W) (h : List O) (e : (C (k + 3)).cn.call "scaled" [w] h = .exc (IP v) h) : (C (k + 4)).cn.call "_law_caught" [.int 0, w, o] h = .ok (.slst [.str "part", v]) h := by
  rw [call__law_caught]
  simp -dsimp [runF, d__law_caught, startL, e, catch_ok]
theorem caught_1 (k : Nat) (w o v : W) (h : List O) (e : (C (k + 3)).cn.call "price" [w, o] h = .exc (IP v) h) : (C (k + 4)).cn.call "_law_caught" [.int 1, w, o] h = .ok (.slst [.str "part", v]) h := by
  rw [call__law_caught]
  simp -dsimp [runF, d__law_caught, startL, e, catch_ok]
end L03
set_option maxRecDepth 100000
set_option maxHeartbeats 4000000
namespace L03
open PySem PySem.Spec PyProof.Rows MP
abbrev Pt (w : W) : W := .slst [.str "part", w]
abbrev Pd (d : PyData) : PyData := .list [.str "part", d]
def NoN (w : W) : Prop := ∀ k h, (C (k + 2)).cn.call "are_numbers" [w] h = .ok (.bl false) h
/-- a thing that is no row of numbers, with its data -/
def Odd (w : W) : Prop := NoN w ∧ ∃ d, (∀ h n, toD h (n + 3) w = some d) ∧ ((PyData.list [Pd d, Pd d, Pd d]).showable && decide ((PyData.list [Pd d, Pd d, Pd d]).shown.length ≤ 16777216)) = true
theorem no_seq {w : W} {ws : List W} {t : String} (hw : ∀ h, wType w h = some t) (ht : (t == "list" || t == "tuple") = true) (hq : ∀ h, seqO true h (.inr w) = .ok (ws, []) h) (hl : ws.length ≤ 1000) (hk : ∀ h, ∀ x ∈ ws, ∃ t, wType x h = some t) (hn : ws.all isWh = false) : NoN w := fun k h => by
  rw [nums_seq k w ws [] h t (hw h) ht (hq h) rfl hl (hk h), hn]
theorem odd_1 : Odd .non := ⟨fun k h => nums_no k _ h _ rfl (by decide), .none, fun h n => toD_non h _, by decide +kernel⟩
theorem odd_2 : Odd (.int 3) := ⟨fun k h => nums_no k _ h _ rfl (by decide), .int 3, fun h n => toD_int h _ _, by decide +kernel⟩
theorem odd_3 : Odd (.bl true) := ⟨fun k h => nums_no k _ h _ rfl (by decide), .bool true, fun h n => toD_bl h _ _, by decide +kernel⟩
theorem odd_4 : Odd (.str "12") := ⟨fun k h => nums_no k _ h _ rfl (by decide), .str "12", fun h n => toD_str h _ _, by decide +kernel⟩
theorem odd_5 : Odd (.sdct []) := ⟨fun k h => nums_no k _ h _ rfl (by decide), .dict [], fun h n => rfl, by decide +kernel⟩
theorem odd_6 : Odd (.tup [.int 1, .bl true]) := ⟨no_seq (t := "tuple") (fun _ => rfl) (by decide) (fun _ => rfl) (by decide) (fun h x hx => by
  simp only [List.mem_cons, List.not_mem_nil, or_false] at hx
  rcases hx with rfl | rfl <;> exact ⟨_, rfl⟩) rfl, .tuple [.int 1, .bool true], fun h n => rfl, by decide +kernel⟩
theorem odd_7 : Odd (.tup [.int 1, .str "2"]) := ⟨no_seq (t := "tuple") (fun _ => rfl) (by decide) (fun _ => rfl) (by decide) (fun h x hx => by
  simp only [List.mem_cons, List.not_mem_nil, or_false] at hx
  rcases hx with rfl | rfl <;> exact ⟨_, rfl⟩) rfl, .tuple [.int 1, .str "2"], fun h n => rfl, by decide +kernel⟩
theorem odd_8 : Odd (.slst [.non]) := ⟨no_seq (t := "list") (fun _ => rfl) (by decide) (fun _ => rfl) (by decide) (fun h x hx => by
  simp only [List.mem_cons, List.not_mem_nil, or_false] at hx
  rcases hx with rfl <;> exact ⟨_, rfl⟩) rfl, .list [.none], fun h n => rfl, by decide +kernel⟩
theorem odd_9 : Odd (.tup [.int 1, .slst [.int 2]]) := ⟨no_seq (t := "tuple") (fun _ => rfl) (by decide) (fun _ => rfl) (by decide) (fun h x hx => by
  simp only [List.mem_cons, List.not_mem_nil, or_false] at hx
  rcases hx with rfl | rfl <;> exact ⟨_, rfl⟩) rfl, .tuple [.int 1, .list [.int 2]], fun h n => rfl, by decide +kernel⟩
def odds : List W := [.non, .int 3, .bl true, .str "12", .sdct [], .tup [.int 1, .bl true], .tup [.int 1, .str "2"], .slst [.non], .tup [.int 1, .slst [.int 2]]]
theorem odds_ok : ∀ w ∈ odds, Odd w := fun w hw => by
  simp only [odds, List.mem_cons, List.not_mem_nil, or_false] at hw
  rcases hw with rfl | rfl | rfl | rfl | rfl | rfl | rfl | rfl | rfl
  · exact odd_1
  · exact odd_2
  · exact odd_3
  · exact odd_4
  · exact odd_5
  · exact odd_6
  · exact odd_7
  · exact odd_8
  · exact odd_9
abbrev oB1 : Ms := (.asg (.name 1) (.frz (.lst (.cons (.call "_law_caught" (.cons (.int 0) (.cons (.var 0) (.cons (.int 0) .nil)))) (.cons (.call "_law_caught" (.cons (.int 1) (.cons (.var 0) (.cons (.var 0) .nil)))) (.cons (.call "_law_caught" (.cons (.int 1) (.cons (.tup (.cons (.int 1) (.cons (.int 2) .nil))) (.cons (.var 0) .nil)))) .nil))))))
abbrev oB2 : Ms := (.ife (.cmp .NotEq (.blt "repr" (.cons (.var 1) .nil)) (.blt "repr" (.cons (.lrep (.lst (.cons (.frz (.lst (.cons (.str "part") (.cons (.var 0) .nil)))) .nil)) (.int 3)) .nil))) (.cons (.ret (.bl false)) .nil) .nil)
theorem caught_no (k : Nat) {w : W} (hw : NoN w) (h : List O) :
    (C (k + 4)).cn.call "_law_caught" [.int 0, w, .int 0] h = .ok (Pt w) h ∧ (C (k + 4)).cn.call "_law_caught" [.int 1, w, w] h = .ok (Pt w) h ∧ (C (k + 4)).cn.call "_law_caught" [.int 1, .tup [.int 1, .int 2], w] h = .ok (Pt w) h :=
  ⟨caught_0 k w _ w h (scaled_no k w h (hw k h)), caught_1 k w _ w h (price_no1 k w _ h (hw k h)), caught_1 k _ _ w h (price_no2 k (w := .tup [.int 1, .int 2]) (a := [1, 2]) (.inl rfl) (by decide) w h (hw k h))⟩
theorem odd_body (k : Nat) {w : W} (hw : Odd w) (a b : Option W) (h : List O) : forBody (C (k + 4)) (.name 0) (.cons oB1 (.cons oB2 .nil)) w [a, b, none] h = .ok .nx [some w, some (.slst [Pt w, Pt w, Pt w]), none] h := by
  obtain ⟨hn, d, hd, hc⟩ := hw
  obtain ⟨q1, q2, q3⟩ := caught_no k hn h
  have d1 : datO h (.inr (.slst [Pt w, Pt w, Pt w])) = some (.list [Pd d, Pd d, Pd d]) := by
    show (([Pt w, Pt w, Pt w].mapM (toD h 11)).map PyData.list) = _
    have e : toD h 11 (Pt w) = some (Pd d) := by
      show (([W.str "part", w].mapM (toD h 10)).map PyData.list) = _
      simp [List.mapM_cons, toD_str, hd h 7]
    simp [List.mapM_cons, e]
  have d2 : datO h (.inl [Pt w, Pt w, Pt w]) = some (.list [Pd d, Pd d, Pd d]) := by
    show (([Pt w, Pt w, Pt w].mapM (toD h 12)).map PyData.list) = _
    have e : toD h 12 (Pt w) = some (Pd d) := by
      show (([W.str "part", w].mapM (toD h 11)).map PyData.list) = _
      simp [List.mapM_cons, toD_str, hd h 8]
    simp [List.mapM_cons, e]
  have r1 := repr_of d1 hc
  have r2 := repr_of d2 hc
  have s1 : evS (C (k + 4)) oB1 [some w, b, none] h = .ok .nx [some w, some (.slst [Pt w, Pt w, Pt w]), none] h := by
    simp -dsimp [q1, q2, q3, sz]
  have s2 : evS (C (k + 4)) oB2 [some w, some (.slst [Pt w, Pt w, Pt w]), none] h = .ok .nx [some w, some (.slst [Pt w, Pt w, Pt w]), none] h := by
    simp -dsimp [r1, sz, repW, r2]
  unfold forBody
  simp -dsimp [s1, s2, -s_asg_, -s_ife_]
abbrev oL : Me := (.lst (.cons .non (.cons (.int 3) (.cons (.bl true) (.cons (.str "12") (.cons (.frd .nil) (.cons (.tup (.cons (.int 1) (.cons (.bl true) .nil))) (.cons (.tup (.cons (.int 1) (.cons (.str "2") .nil))) (.cons (.frz (.lst (.cons .non .nil))) (.cons (.tup (.cons (.int 1) (.cons (.frz (.lst (.cons (.int 2) .nil))) .nil))) .nil))))))))))
abbrev oS1 : Ms := .for (.name 0) (.val oL) (.cons oB1 (.cons oB2 .nil))
theorem oL_ok (k : Nat) (ℓ : Lo) (h : List O) : evi (C k).cn (.val oL) ℓ h = .ok (odds, []) h := by
  simp -dsimp [sz, odds, mergeW]
theorem oS1_ok (k : Nat) (h : List O) : ∃ a b, evS (C (k + 4)) oS1 [none, none, none] h = .ok .nx [a, b, none] h := by
  obtain ⟨ℓ, h', e, rfl, a, b, rfl⟩ := for_inv (f := forBody (C (k + 4)) (.name 0) (.cons oB1 (.cons oB2 .nil))) (I := fun _ ℓ h' => h' = h ∧ ∃ a b, ℓ = [a, b, none]) (ws := odds) (pre := []) (ℓ := [none, none, none]) (h := h)
    (fun p w q ℓ h' hp ⟨e1, a, b, e2⟩ => by
      subst e1
      subst e2
      exact ⟨_, _, odd_body k (odds_ok w (by rw [show odds = p ++ w :: q from hp]; simp)) a b h', rfl, _, _, rfl⟩) ⟨rfl, _, _, rfl⟩
  exact ⟨a, b, by rw [s_for_, oL_ok, liftE_ok]; exact e⟩
abbrev oS2 : Ms := .asg (.name 2) (.lst (.cons .non .nil))
abbrev oS3 : Ms := (.asg (.name 1) (.frz (.lst (.cons (.sub (.call "_law_caught" (.cons (.int 0) (.cons (.var 2) (.cons (.int 0) .nil)))) (.int 1)) (.cons (.sub (.call "_law_caught" (.cons (.int 1) (.cons (.var 2) (.cons (.int 0) .nil)))) (.int 1)) (.cons (.sub (.call "_law_caught" (.cons (.int 1) (.cons (.tup (.cons (.int 1) .nil)) (.cons (.var 2) .nil)))) (.int 1)) .nil))))))
abbrev oS4 : Ms := (.expr (.bm "append" (.var 2) (.cons (.int 7) .nil)))
abbrev oS5 : Ms := (.ife (.cmp .NotEq (.var 1) (.lrep (.lst (.cons (.frz (.lst (.cons .non (.cons (.int 7) .nil)))) .nil)) (.int 3))) (.cons (.ret (.bl false)) .nil) .nil)
abbrev oS6 : Ms := (.ret (.boolop .And (.cons (.cmp .Eq (.call "_law_caught" (.cons (.int 1) (.cons (.tup (.cons (.int 1) (.cons (.int 2) .nil))) (.cons (.tup (.cons (.int 3) .nil)) .nil)))) (.lst (.cons (.str "part") (.cons (.tup (.cons (.int 3) .nil)) .nil)))) (.cons (.cmp .Eq (.call "_law_caught" (.cons (.int 1) (.cons (.tup .nil) (.cons (.tup (.cons (.int 3) .nil)) .nil)))) (.lst (.cons (.str "part") (.cons (.tup (.cons (.int 3) .nil)) .nil)))) .nil))))
theorem oS2_ok (k : Nat) (a b : Option W) (h : List O) : evS (C k) oS2 [a, b, none] h = .ok .nx [a, b, some (.ref h.length)] (h ++ [.lst [.non]]) := by
  simp -dsimp [sz]
theorem bad_no (k : Nat) (h : List O) : (C (k + 2)).cn.call "are_numbers" [.ref h.length] (h ++ [.lst [.non]]) = .ok (.bl false) (h ++ [.lst [.non]]) := by
  have e : (h ++ [O.lst [.non]])[h.length]? = some (.lst [.non]) := by simp
  refine nums_seq k (.ref h.length) [.non] [(h.length, [.non])] (h ++ [.lst [.non]]) "list" ?_ (by decide) ?_ (gsOk_one e) (by decide) (fun x hx => ?_)
  · show (match (h ++ [O.lst [.non]])[h.length]? with
    | some (.lst _) => some "list"
    | some (.dct _) => some "dict"
    | _ => none) = _
    rw [e]
  · show (match (h ++ [O.lst [.non]])[h.length]? with
    | some (.lst ws) => R.ok (ws, [(h.length, ws)]) (h ++ [O.lst [.non]])
    | _ => .stuck) = _
    rw [e]
  · simp only [List.mem_cons, List.not_mem_nil, or_false] at hx
    subst hx
    exact ⟨_, rfl⟩
abbrev b3 (n : Nat) : W := .slst [.ref n, .ref n, .ref n]
theorem oS3_ok (k : Nat) (a b : Option W) (h : List O) : evS (C (k + 4)) oS3 [a, b, some (.ref h.length)] (h ++ [.lst [.non]]) = .ok .nx [a, some (b3 h.length), some (.ref h.length)] (h ++ [.lst [.non]]) := by
  have n1 := bad_no k h
  have q1 := caught_0 k (.ref h.length) (.int 0) (.ref h.length) _ (scaled_no k _ _ n1)
  have q2 := caught_1 k (.ref h.length) (.int 0) (.ref h.length) _ (price_no1 k _ (.int 0) _ n1)
  have q3 := caught_1 k (.tup [.int 1]) (.ref h.length) (.ref h.length) _ (price_no2 k (w := .tup [.int 1]) (a := [1]) (.inl rfl) (by decide) (.ref h.length) _ n1)
  simp -dsimp [sz, q1, q2, q3, L2.atI, L2.ixN]
theorem oS4_ok (k : Nat) (a b : Option W) (h : List O) : evS (C k) oS4 [a, b, some (.ref h.length)] (h ++ [.lst [.non]]) = .ok .nx [a, b, some (.ref h.length)] (h ++ [.lst [.non, .int 7]]) := by
  have e : (h ++ [O.lst [.non]])[h.length]? = some (.lst [.non]) := by simp
  have e1 : isLst (h ++ [O.lst [.non]]) (.ref h.length) = true := by
    show (match (h ++ [O.lst [.non]])[h.length]? with
    | some (.lst _) => true
    | _ => false) = true
    rw [e]
  have e2 : bmV "append" (.ref h.length) [.int 7] (h ++ [O.lst [.non]]) = .ok .non (h ++ [.lst [.non, .int 7]]) := by
    unfold bmV
    rw [if_pos rfl]
    show (match (h ++ [O.lst [.non]])[h.length]? with
    | some (.lst ws) => chk (decide (ws.length < sizeLine)) (.ok W.non ((h ++ [O.lst [.non]]).set h.length (O.lst (ws ++ [W.int 7]))))
    | _ => .stuck) = _
    rw [e]
    show chk (decide (1 < sizeLine)) _ = _
    rw [sz2 (by omega)]
    simp
  simp -dsimp [chk_of e1, e2]
theorem oS5_ok (k : Nat) (a : Option W) (h : List O) : evS (C k) oS5 [a, some (b3 h.length), some (.ref h.length)] (h ++ [.lst [.non, .int 7]]) = .ok .nx [a, some (b3 h.length), some (.ref h.length)] (h ++ [.lst [.non, .int 7]]) := by
  have e : (h ++ [O.lst [.non, .int 7]])[h.length]? = some (.lst [.non, .int 7]) := by simp
  have er : ∀ n, toD (h ++ [O.lst [.non, .int 7]]) (n + 2) (.ref h.length) = some (PyData.list [PyData.none, PyData.int 7]) := fun n => by
    rw [toD, e]
    show (([W.non, .int 7].mapM (toD _ (n + 1))).map PyData.list) = _
    simp [List.mapM_cons, toD_non, toD_int]
  have d1 : datO (h ++ [O.lst [.non, .int 7]]) (.inr (b3 h.length)) = some (PyData.list [PyData.list [PyData.none, PyData.int 7], PyData.list [PyData.none, PyData.int 7], PyData.list [PyData.none, PyData.int 7]]) := by
    show (([W.ref h.length, .ref h.length, .ref h.length].mapM (toD _ 11)).map PyData.list) = _
    simp [List.mapM_cons, er 9]
  have d2 : datO (h ++ [O.lst [.non, .int 7]]) (.inl [W.slst [W.non, W.int 7], W.slst [W.non, W.int 7], W.slst [W.non, W.int 7]]) = some (PyData.list [PyData.list [PyData.none, PyData.int 7], PyData.list [PyData.none, PyData.int 7], PyData.list [PyData.none, PyData.int 7]]) := rfl
  have q := eqO_refl d1 d2 (by decide) (fun x y _ e => nomatch e)
  simp -dsimp [sz, repW, q]
theorem part_eq (h : List O) (ns : List Int) : eqO h (.inr (Pt (tpI ns))) (.inl [.str "part", tpI ns]) = some true := by
  refine eqO_refl (d := .list [.str "part", .tuple (ns.map .int)]) ?_ ?_ ?_ (fun x y _ e => nomatch e)
  · show (([W.str "part", tpI ns].mapM (toD h 11)).map PyData.list) = _
    simp [List.mapM_cons, toD_str, toD_tpI h 10]
  · show (([W.str "part", tpI ns].mapM (toD h 12)).map PyData.list) = _
    simp [List.mapM_cons, toD_str, toD_tpI h 11]
  · unfold SeqAt.shaped
    simp [PyData.canLay0, PyData.canLayAll0, PyData.depth, PyData.depthAll, (lay_ints ns).1, (lay_ints ns).2]
    decide +kernel
theorem oS6_ok (k : Nat) (ℓ : Lo) (h : List O) : evS (C (k + 4)) oS6 ℓ h = .ok (.rt (.bl true)) ℓ h := by
  have q1 := caught_1 k (.tup [.int 1, .int 2]) (.tup [.int 3]) (.tup [.int 3]) h (price_no3 k (w := .tup [.int 1, .int 2]) (v := .tup [.int 3]) (a := [1, 2]) (b := [3]) (.inl rfl) (.inl rfl) (by decide) (by decide) (by decide) h)
  have q2 := caught_1 k (.tup []) (.tup [.int 3]) (.tup [.int 3]) h (price_no3 k (w := .tup []) (v := .tup [.int 3]) (a := []) (b := [3]) (.inl rfl) (.inl rfl) (by decide) (by decide) (by decide) h)
  have p := part_eq h [3]
  have p : eqO h (.inr (Pt (.tup [.int 3]))) (.inl [.str "part", .tup [.int 3]]) = some true := p
  simp -dsimp [sz, q1, q2, p]
theorem odd_right (k : Nat) (h : List O) : (C (k + 5)).cn.call "_law_odd_right" [] h = .ok (.bl true) h := by
  rw [call__law_odd_right, runF_of rfl]
  obtain ⟨a, b, q1⟩ := oS1_ok k h
  have key : endF (evSs (C (k + 4)) (.cons oS1 (.cons oS2 (.cons oS3 (.cons oS4 (.cons oS5 (.cons oS6 .nil)))))) [none, none, none] h) = .ok (.bl true) (h ++ [.lst [.non, .int 7]]) := by
    rw [ss_cons, q1, seqS_nx, ss_cons, oS2_ok, seqS_nx, ss_cons, oS3_ok, seqS_nx, ss_cons, oS4_ok, seqS_nx, ss_cons, oS5_ok, seqS_nx, ss_one, oS6_ok]
    rfl
  show gcR h (endF (evSs (C (k + 4)) (.cons oS1 (.cons oS2 (.cons oS3 (.cons oS4 (.cons oS5 (.cons oS6 .nil)))))) [none, none, none] h)) = _
  rw [key]
  exact gcR_app rfl
end L03
set_option maxRecDepth 100000
set_option maxHeartbeats 4000000
namespace L03
open PySem PySem.Spec PyProof.Rows MP
/-! ### a divided row -/
theorem fold_mul (t : Nat) : ∀ (ms : List Int) (a : Nat), (ms.map fun m => (t : Int) * m).foldl gc0 (t * a) = t * ms.foldl gc0 a
  | [], a => rfl
  | m :: ms, a => by
    rw [List.map_cons, List.foldl_cons, List.foldl_cons]
    have e : gc0 (t * a) ((t : Int) * m) = t * gc0 a m := by
      unfold gc0
      rw [Int.natAbs_mul, Int.natAbs_natCast, Nat.gcd_mul_left]
    rw [e, fold_mul t ms]
theorem fold_dvd : ∀ (ns : List Int) (a : Nat), ns.foldl gc0 a ∣ a ∧ ∀ n ∈ ns, ns.foldl gc0 a ∣ n.natAbs
  | [], a => ⟨Nat.dvd_refl a, fun _ h => nomatch h⟩
  | n :: ns, a => by
    rw [List.foldl_cons]
    obtain ⟨p, q⟩ := fold_dvd ns (gc0 a n)
    refine ⟨Nat.dvd_trans p (Nat.gcd_dvd_left _ _), fun m hm => ?_⟩
    rcases List.mem_cons.mp hm with rfl | hm
    · exact Nat.dvd_trans p (Nat.gcd_dvd_right _ _)
    · exact q m hm
theorem top1_nat (g : Nat) : ∃ t : Nat, top1 g = t ∧ 0 < t ∧ (0 < g → t = g) := by
  unfold top1
  by_cases h : (g : Int) > 1
  · rw [if_pos h]; exact ⟨g, rfl, by omega, fun _ => rfl⟩
  · rw [if_neg h]; exact ⟨1, rfl, by omega, fun _ => by omega⟩
theorem due_mul (ns : List Int) : ∃ t : Nat, top1 (gcs ns) = t ∧ 0 < t ∧ ns = (due ns).map fun m => (t : Int) * m := by
  obtain ⟨t, e, t0, tg⟩ := top1_nat (gcs ns)
  refine ⟨t, e, t0, ?_⟩
  unfold due
  rw [List.map_map, e]
  have : ∀ n ∈ ns, ((fun m => (t : Int) * m) ∘ fun n => n.fdiv t) n = n := fun n hn => by
    show (t : Int) * n.fdiv t = n
    have d : (t : Int) ∣ n := by
      by_cases g : 0 < gcs ns
      · rw [tg g]
        exact Int.ofNat_dvd_left.mpr ((fold_dvd ns 0).2 n hn)
      · have z : gcs ns = 0 := by omega
        have dz := (fold_dvd ns 0).2 n hn
        rw [show ns.foldl gc0 0 = gcs ns from rfl, z, Nat.zero_dvd] at dz
        rw [show n = 0 by omega]
        exact Int.dvd_zero _
    rw [Int.fdiv_eq_ediv_of_nonneg _ (by omega)]
    exact Int.mul_ediv_cancel' d
  exact ((List.map_congr_left (g := id) this).trans (List.map_id ns)).symm
theorem gcs_due (ns : List Int) : top1 (gcs (due ns)) = 1 := by
  obtain ⟨t, e, t0, en⟩ := due_mul ns
  have h : gcs ns = t * gcs (due ns) := by
    have z := fold_mul t (due ns) 0
    rw [← en] at z
    exact z
  by_cases g : 0 < gcs ns
  · obtain ⟨t', e', _, tg⟩ := top1_nat (gcs ns)
    rw [e] at e'
    have : t = gcs ns := by rw [← tg g]; omega
    rw [← this] at h
    have h1 : gcs (due ns) = 1 := Nat.eq_of_mul_eq_mul_left t0 (by omega)
    rw [h1]
    rfl
  · have z : gcs ns = 0 := by omega
    rw [z] at h
    have : gcs (due ns) = 0 := by
      rcases Nat.mul_eq_zero.mp h.symm with h | h
      · omega
      · exact h
    rw [this]
    rfl
theorem due_due (ns : List Int) : due (due ns) = due ns := by
  show (due ns).map (fun n => n.fdiv (top1 (gcs (due ns)))) = due ns
  rw [gcs_due]
  exact List.map_id'' Int.fdiv_one _
theorem due_mid {ns : List Int} (h : Mid ns) : Mid (due ns) := by
  obtain ⟨t, e, t0, en⟩ := due_mul ns
  refine ⟨by unfold due; rw [List.length_map]; exact h.1, fun m hm => ?_⟩
  have : (t : Int) * m ∈ ns := by rw [en]; exact List.mem_map.mpr ⟨m, hm, rfl⟩
  have b := h.2 _ this
  rw [Int.natAbs_mul, Int.natAbs_natCast] at b
  exact Nat.lt_of_le_of_lt (Nat.le_mul_of_pos_left _ t0) b
theorem prod_comm : ∀ a b : List Int, prod a b = prod b a
  | [], [] => rfl
  | [], _ :: _ => rfl
  | _ :: _, [] => rfl
  | a :: as, b :: bs => by
    have ih := prod_comm as bs
    unfold prod at ih ⊢
    rw [List.zip_cons_cons, List.zip_cons_cons, List.map_cons, List.map_cons, List.sum_cons, List.sum_cons, ih, Int.mul_comm]
/-! ### the law -/
abbrev lA1 : Ms := (.asg (.name 2) (.call "_law_box" (.cons (.call "_law_cell" (.cons (.var 0) (.cons (.var 1) .nil))) .nil)))
abbrev lA2 : Ms := (.asg (.name 3) (.call "_law_row" (.cons (.var 2) (.cons (.call "_law_take" (.cons (.var 2) (.cons (.int 7) .nil))) .nil))))
abbrev lA3 : Ms := (.asg (.name 4) (.call "_law_row" (.cons (.var 2) (.cons (.blt "len" (.cons (.var 3) .nil)) .nil))))
abbrev lA4 : Ms := (.asg (.name 5) (.blt "max" (.cons (.int 1) (.cons (.call "_law_shared" (.cons (.var 3) .nil)) .nil))))
abbrev lA5 : Ms := (.asg (.name 6) (.blt "tuple" (.cons (.lcomp (.bin .FloorDiv (.var 11) (.var 5)) (.name 11) (.val (.var 3)) .none [10, 11]) .nil)))
abbrev lB1 : Ms := (.asg (.name 8) (.call "scaled" (.cons (.var 7) .nil)))
abbrev lB2 : Ms := (.ife (.boolop .Or (.cons (.cmp .NotEq (.var 8) (.var 6)) (.cons (.not (.isi (.var 8) ["tuple"])) .nil))) (.cons (.ret (.bl false)) .nil) .nil)
abbrev lA6 : Ms := (.for (.name 7) (.val (.lst (.cons (.blt "tuple" (.cons (.var 3) .nil)) (.cons (.frz (.blt "list" (.cons (.var 3) .nil))) (.cons (.var 6) .nil))))) (.cons lB1 (.cons lB2 .nil)))
abbrev lA7 : Ms := (.asg (.name 9) (.blt "sum" (.cons (.lcomp (.bin .Mult (.var 12) (.var 13)) (.tup (.cons (.name 12) (.cons (.name 13) .nil))) (.zip (.var 3) (.var 4)) .none [10, 12, 13]) .nil)))
abbrev lA8 : Ms := (.ife (.boolop .Or (.cons (.cmp .NotEq (.call "price" (.cons (.blt "tuple" (.cons (.var 3) .nil)) (.cons (.blt "tuple" (.cons (.var 4) .nil)) .nil))) (.var 9)) (.cons (.cmp .NotEq (.call "price" (.cons (.var 4) (.cons (.var 3) .nil))) (.var 9)) .nil))) (.cons (.ret (.bl false)) .nil) .nil)
abbrev lA9 : Ms := (.ife (.cmp .NotEq (.call "_law_caught" (.cons (.int 1) (.cons (.blt "tuple" (.cons (.var 3) .nil)) (.cons (.blt "tuple" (.cons (.lcat (.var 4) (.lst (.cons (.int 1) .nil))) .nil)) .nil)))) (.lst (.cons (.str "part") (.cons (.blt "tuple" (.cons (.lcat (.var 4) (.lst (.cons (.int 1) .nil))) .nil)) .nil)))) (.cons (.ret (.bl false)) .nil) .nil)
abbrev lR : Ms := (.ret (.boolop .And (.cons (.call "_law_odd_right" .nil) (.cons (.cmp .Eq (.call "scaled" (.cons (.tup .nil) .nil)) (.tup .nil)) (.cons (.cmp .Eq (.call "price" (.cons (.tup .nil) (.cons (.tup .nil) .nil))) (.int 0)) .nil)))))
abbrev lF : Mss := (.cons lA1 (.cons lA2 (.cons lA3 (.cons lA4 (.cons lA5 (.cons lA6 (.cons lA7 (.cons lA8 (.cons lA9 .nil)))))))))
theorem law_body : d_law.body = .cons (.for (.name 1) (capR 2 8) lF) (.cons lR .nil) := rfl
theorem A1_ok (k : Nat) (ns : List Int) (i : Nat) (h : List O) (o2 o3 o4 o5 o6 o7 o8 o9 oa ob oc od : Option W) : ∃ h', evS (C (k + 1)) lA1 [some (.slst (ns.map W.int)), some (.int i), o2, o3, o4, o5, o6, o7, o8, o9, oa, ob, oc, od] h = .ok .nx [some (.slst (ns.map W.int)), some (.int i), some (.ref h.length), o3, o4, o5, o6, o7, o8, o9, oa, ob, oc, od] h' ∧ Bx h.length 0 h' := by
  obtain ⟨c, q1⟩ := cell_c k h ns i
  obtain ⟨x, y, q2, b⟩ := box_c k h c
  exact ⟨_, by simp -dsimp [q1, q2], b⟩
theorem A2_ok (k : Nat) (s i : Option W) (b : Nat) (h : List O) (hb : Bx b 0 h) (o3 o4 o5 o6 o7 o8 o9 oa ob oc od : Option W) : ∃ ns h', evS (C (k + 2)) lA2 [s, i, some (.ref b), o3, o4, o5, o6, o7, o8, o9, oa, ob, oc, od] h = .ok .nx [s, i, some (.ref b), some (lsI ns), o4, o5, o6, o7, o8, o9, oa, ob, oc, od] h' ∧ Bx b 20 h' ∧ ns.length ≤ 7 ∧ Mid ns := by
  obtain ⟨r, h1, q1, r0, r1, b1, _⟩ := take_c (k + 1) h b 0 7 hb (by decide) (by omega) (by omega)
  obtain ⟨m, rfl⟩ := Int.eq_ofNat_of_zero_le r0
  obtain ⟨ns, h2, q2, l2, n2, b2, _⟩ := row_ok k h1 b (0 + 1) m b1 (by omega)
  refine ⟨ns, h2, ?_, b2.le (by omega), by omega, by omega, n2⟩
  clear r0 r1
  simp -dsimp [q1, q2]
theorem A3_ok (k : Nat) (s i : Option W) (b : Nat) (ns : List Int) (h : List O) (hb : Bx b 20 h) (hl : ns.length ≤ 7) (o4 o5 o6 o7 o8 o9 oa ob oc od : Option W) : ∃ ms h', evS (C (k + 2)) lA3 [s, i, some (.ref b), some (lsI ns), o4, o5, o6, o7, o8, o9, oa, ob, oc, od] h = .ok .nx [s, i, some (.ref b), some (lsI ns), some (lsI ms), o5, o6, o7, o8, o9, oa, ob, oc, od] h' ∧ ms.length = ns.length ∧ Mid ms := by
  obtain ⟨ms, h2, q2, l2, n2, b2, _⟩ := row_ok k h b 20 ns.length hb (by omega)
  refine ⟨ms, h2, ?_, l2, by omega, n2⟩
  simp -dsimp [q2]
theorem A4_ok (k : Nat) (s i b : Option W) (ns : List Int) (h : List O) (hm : Mid ns) (o4 o5 o6 o7 o8 o9 oa ob oc od : Option W) : evS (C (k + 1)) lA4 [s, i, b, some (lsI ns), o4, o5, o6, o7, o8, o9, oa, ob, oc, od] h = .ok .nx [s, i, b, some (lsI ns), o4, some (.int (top1 (gcs ns))), o6, o7, o8, o9, oa, ob, oc, od] h := by
  have q := shared_ok k ns h hm.2
  have mxe : ∀ h, bltV "max" [.int 1, .int (gcs ns : Nat)] h = .ok (.int (top1 (gcs ns))) h := fun h => by rw [mx]; rfl
  have e : (ev (C (k + 1)).cn (.blt "max" (.cons (.int 1) (.cons (.call "_law_shared" (.cons (.var 3) .nil)) .nil)))).v [s, i, b, some (lsI ns), o4, o5, o6, o7, o8, o9, oa, ob, oc, od] h = .ok (.int (top1 (gcs ns))) h := by
    simp -dsimp [q, mxe, -MP.mx]
  rw [s_asg_, e]
  rfl
theorem A5_ok (k : Nat) (s i b : Option W) (ns : List Int) (h : List O) (hm : Mid ns) (o4 o6 o7 o8 o9 oa ob oc od : Option W) : evS (C k) lA5 [s, i, b, some (lsI ns), o4, some (.int (top1 (gcs ns))), o6, o7, o8, o9, oa, ob, oc, od] h = .ok .nx [s, i, b, some (lsI ns), o4, some (.int (top1 (gcs ns))), some (tpI (due ns)), o7, o8, o9, oa, ob, oc, od] h := by
  have hg : gcs ns < 2 ^ 190 := fold_lt (by decide) hm.2
  have hd := div_top (g := gcs ns) (Nat.lt_of_lt_of_le hg (by decide))
  have lc : lcLoop (lcBody (C k).cn (.bin .FloorDiv (.var 11) (.var 5)) (.name 11) .none [s, i, b, some (lsI ns), o4, some (.int (top1 (gcs ns))), o6, o7, o8, o9, none, none, oc, od]) [] 0 (ns.map W.int) h = .ok ((due ns).map W.int) h := by
    rw [lc_mapA (g := fun n => W.int (n.fdiv (top1 (gcs ns)))) (fun x hx => by simp -dsimp [lcBody, chk_of hd]) (by have := hm.1; omega)]
    unfold due
    rw [List.map_map]
    rfl
  simp -dsimp [wipeL, lc]
theorem B_ok (k : Nat) (s i b r o f : Option W) (w : W) (ds : List Int) (h : List O) (e : (C (k + 3)).cn.call "scaled" [w] h = .ok (tpI ds) h) (o7 o8 o9 oa ob oc od : Option W) : forBody (C (k + 3)) (.name 7) (.cons lB1 (.cons lB2 .nil)) w [s, i, b, r, o, f, some (tpI ds), o7, o8, o9, oa, ob, oc, od] h = .ok .nx [s, i, b, r, o, f, some (tpI ds), some w, some (tpI ds), o9, oa, ob, oc, od] h := by
  have q : ∀ h, eqO h (.inr (tpI ds)) (.inr (tpI ds)) = some true := fun h => by rw [eqO_tpI]; simp
  unfold forBody
  simp -dsimp [e, q, isiW, wType, isiB]
theorem A6_ok (k : Nat) (s i b : Option W) (ns : List Int) (o f : Option W) (h : List O) (hm : Mid ns) (o7 o8 o9 oa ob oc od : Option W) : ∃ o7' o8', evS (C (k + 3)) lA6 [s, i, b, some (lsI ns), o, f, some (tpI (due ns)), o7, o8, o9, oa, ob, oc, od] h = .ok .nx [s, i, b, some (lsI ns), o, f, some (tpI (due ns)), o7', o8', o9, oa, ob, oc, od] h := by
  have e1 := scaled_ok k (w := tpI ns) (.inl rfl) h hm
  have e2 := scaled_ok k (w := lsI ns) (.inr rfl) h hm
  have e3 := scaled_ok k (w := tpI (due ns)) (.inl rfl) h (due_mid hm)
  rw [due_due] at e3
  have src : evi (C (k + 3)).cn (.val (.lst (.cons (.blt "tuple" (.cons (.var 3) .nil)) (.cons (.frz (.blt "list" (.cons (.var 3) .nil))) (.cons (.var 6) .nil))))) [s, i, b, some (lsI ns), o, f, some (tpI (due ns)), o7, o8, o9, oa, ob, oc, od] h = .ok ([tpI ns, lsI ns, tpI (due ns)], []) h := by
    simp -dsimp [sz]
  exact ⟨_, _, by rw [s_for_, src, liftE_ok, for_cons, B_ok k _ _ _ _ _ _ _ _ _ e1, turnS_nx, for_cons, B_ok k _ _ _ _ _ _ _ _ _ e2, turnS_nx, for_cons, B_ok k _ _ _ _ _ _ _ _ _ e3, turnS_nx, for_nil]⟩
theorem A7_ok (k : Nat) (s i b : Option W) (ns ms : List Int) (f d : Option W) (h : List O) (hn : Mid ns) (hm : Mid ms) (o7 o8 o9 oa ob oc od : Option W) : evS (C k) lA7 [s, i, b, some (lsI ns), some (lsI ms), f, d, o7, o8, o9, oa, ob, oc, od] h = .ok .nx [s, i, b, some (lsI ns), some (lsI ms), f, d, o7, o8, some (.int (prod ns ms)), oa, ob, oc, od] h := by
  have e1 : evi (C k).cn (.zip (.var 3) (.var 4)) [s, i, b, some (lsI ns), some (lsI ms), f, d, o7, o8, o9, oa, ob, oc, od] h = _ := zip_src (t := false) (a := ns) (b := ms) rfl rfl rfl rfl
  have e2 := sum_lc (C k).cn 12 13 [s, i, b, some (lsI ns), some (lsI ms), f, d, o7, o8, o9, none, ob, none, none] h hn hm (fun p => by simp -dsimp [seqW]) (fun p => by simp) (fun p => by simp)
  simp -dsimp [e1, wipeL, e2, sum_ints, prod, -List.map_map, -evi_zip]
theorem A8_ok (k : Nat) (s i b : Option W) (ns ms : List Int) (f d : Option W) (h : List O) (hn : Mid ns) (hm : Mid ms) (hl : ms.length = ns.length) (o7 o8 oa ob oc od : Option W) : evS (C (k + 3)) lA8 [s, i, b, some (lsI ns), some (lsI ms), f, d, o7, o8, some (.int (prod ns ms)), oa, ob, oc, od] h = .ok .nx [s, i, b, some (lsI ns), some (lsI ms), f, d, o7, o8, some (.int (prod ns ms)), oa, ob, oc, od] h := by
  have e1 := price_ok k (w := tpI ns) (v := tpI ms) (t := true) rfl rfl hn hm hl.symm h
  have e2 := price_ok k (w := lsI ms) (v := lsI ns) (t := false) rfl rfl hm hn hl h
  rw [prod_comm] at e2
  simp -dsimp [e1, e2]
theorem A9_ok (k : Nat) (s i b : Option W) (ns ms : List Int) (f d : Option W) (h : List O) (hn : Mid ns) (hm : Mid ms) (hl : ms.length = ns.length) (o7 o8 o9 oa ob oc od : Option W) : evS (C (k + 4)) lA9 [s, i, b, some (lsI ns), some (lsI ms), f, d, o7, o8, o9, oa, ob, oc, od] h = .ok .nx [s, i, b, some (lsI ns), some (lsI ms), f, d, o7, o8, o9, oa, ob, oc, od] h := by
  have q := caught_1 k (tpI ns) (tpI (ms ++ [1])) (tpI (ms ++ [1])) h (price_no3 k (w := tpI ns) (v := tpI (ms ++ [1])) (a := ns) (b := ms ++ [1]) (.inl rfl) (.inl rfl) (by have := hn.1; omega) (by rw [List.length_append]; have := hm.1; simp; omega) (by rw [List.length_append]; simp; omega) h)
  have p := part_eq h (ms ++ [1])
  have a1 : decide (ms.length + 1 ≤ sizeLine) = true := sz (by have := hm.1; omega)
  have em : (ms ++ [1]).map W.int = ms.map W.int ++ [.int 1] := by simp
  have q : (C (k + 4)).cn.call "_law_caught" [.int 1, tpI ns, .tup (ms.map W.int ++ [.int 1])] h = .ok (Pt (.tup (ms.map W.int ++ [.int 1]))) h := by rw [← em]; exact q
  have p : eqO h (.inr (Pt (.tup (ms.map W.int ++ [.int 1])))) (.inl [.str "part", .tup (ms.map W.int ++ [.int 1])]) = some true := by rw [← em]; exact p
  simp -dsimp [sz, lsqO, chk_of a1, q, p]
theorem R_ok (ℓ : Lo) (h : List O) (k : Nat) : evS (C (k + 5)) lR ℓ h = .ok (.rt (.bl true)) ℓ h := by
  have m0 : Mid [] := ⟨by decide, fun n hn => nomatch hn⟩
  have q1 := odd_right k h
  have q2 : (C (k + 5)).cn.call "scaled" [.tup []] h = .ok (.tup []) h := scaled_ok (k + 2) (w := .tup []) (ns := []) (.inl rfl) h m0
  have q3 : (C (k + 5)).cn.call "price" [.tup [], .tup []] h = .ok (.int 0) h := price_ok (k + 2) (w := .tup []) (v := .tup []) (a := []) (b := []) (t := true) rfl rfl m0 m0 rfl h
  have p : eqO h (.inr (.tup [])) (.inr (.tup [])) = some true := eqO_tpI h [] []
  simp -dsimp [q1, q2, q3, p]
theorem F_ok (k : Nat) (ns : List Int) (i : Nat) (h : List O) (o1 o2 o3 o4 o5 o6 o7 o8 o9 oa ob oc od : Option W) : ∃ p1 p2 p3 p4 p5 p6 p7 p8 p9 pa pb pc pd h', forBody (C (k + 5)) (.name 1) lF (.int (0 + (i : Int))) [some (.slst (ns.map W.int)), o1, o2, o3, o4, o5, o6, o7, o8, o9, oa, ob, oc, od] h = .ok .nx [some (.slst (ns.map W.int)), p1, p2, p3, p4, p5, p6, p7, p8, p9, pa, pb, pc, pd] h' := by
  obtain ⟨h1, q1, b1⟩ := A1_ok (k + 4) ns i h o2 o3 o4 o5 o6 o7 o8 o9 oa ob oc od
  obtain ⟨rs, h2, q2, b2, l2, m2⟩ := A2_ok (k + 3) (some (.slst (ns.map W.int))) (some (.int i)) h.length h1 b1 o3 o4 o5 o6 o7 o8 o9 oa ob oc od
  obtain ⟨ms, h3, q3, l3, m3⟩ := A3_ok (k + 3) (some (.slst (ns.map W.int))) (some (.int i)) h.length rs h2 b2 l2 o4 o5 o6 o7 o8 o9 oa ob oc od
  obtain ⟨o7', o8', q6⟩ := A6_ok (k + 2) (some (.slst (ns.map W.int))) (some (.int i)) (some (.ref h.length)) rs (some (lsI ms)) (some (.int (top1 (gcs rs)))) h3 m2 o7 o8 o9 oa ob oc od
  have q0 : forBody (C (k + 5)) (.name 1) lF (.int (0 + (i : Int))) [some (.slst (ns.map W.int)), o1, o2, o3, o4, o5, o6, o7, o8, o9, oa, ob, oc, od] h = evSs (C (k + 5)) lF [some (.slst (ns.map W.int)), some (.int (0 + (i : Int))), o2, o3, o4, o5, o6, o7, o8, o9, oa, ob, oc, od] h := rfl
  refine ⟨some (.int i), some (.ref h.length), some (lsI rs), some (lsI ms), some (.int (top1 (gcs rs))), some (tpI (due rs)), o7', o8', some (.int (prod rs ms)), oa, ob, oc, od, h3, ?_⟩
  rw [q0, Int.zero_add, ss_cons, q1, seqS_nx, ss_cons, q2, seqS_nx, ss_cons, q3, seqS_nx, ss_cons, A4_ok (k + 4) _ _ _ _ _ m2, seqS_nx, ss_cons, A5_ok _ _ _ _ _ _ m2, seqS_nx, ss_cons, q6, seqS_nx, ss_cons, A7_ok _ _ _ _ _ _ _ _ _ m2 m3, seqS_nx, ss_cons, A8_ok (k + 2) _ _ _ _ _ _ _ _ m2 m3 l3, seqS_nx, ss_one, A9_ok (k + 1) _ _ _ _ _ _ _ _ m2 m3 l3]
theorem law_true (ns : List Int) (_ : ns.length ≤ 63) : ∃ h', runF (C 8) d_law [.slst (ns.map MP.W.int)] [] = .ok (.bl true) h' := by
  obtain ⟨m, _, _, em⟩ := capR_ok (C 8).cn 2 8 (by omega) (by omega) ns [none, none, none, none, none, none, none, none, none, none, none, none, none] []
  obtain ⟨ℓ, h', e, o1, o2, o3, o4, o5, o6, o7, o8, o9, oa, ob, oc, od, rfl⟩ := for_inv (f := forBody (C 8) (.name 1) lF) (I := fun _ ℓ _ => ∃ o1 o2 o3 o4 o5 o6 o7 o8 o9 oa ob oc od, ℓ = [some (.slst (ns.map W.int)), o1, o2, o3, o4, o5, o6, o7, o8, o9, oa, ob, oc, od]) (ws := (List.range m).map (fun k : Nat => W.int (0 + (k : Int)))) (pre := []) (ℓ := [some (.slst (ns.map W.int)), none, none, none, none, none, none, none, none, none, none, none, none, none]) (h := [])
    (fun p w q ℓ h hp hi => by
      obtain ⟨o1, o2, o3, o4, o5, o6, o7, o8, o9, oa, ob, oc, od, rfl⟩ := hi
      have hw : w ∈ (List.range m).map (fun k : Nat => W.int (0 + (k : Int))) := by
        have hp' : (List.range m).map (fun k : Nat => W.int (0 + (k : Int))) = p ++ w :: q := hp
        rw [hp']; simp
      obtain ⟨i, _, rfl⟩ := List.mem_map.mp hw
      obtain ⟨p1, p2, p3, p4, p5, p6, p7, p8, p9, pa, pb, pc, pd, h', e⟩ := F_ok 3 ns i h o1 o2 o3 o4 o5 o6 o7 o8 o9 oa ob oc od
      exact ⟨_, _, e, p1, p2, p3, p4, p5, p6, p7, p8, p9, pa, pb, pc, pd, rfl⟩) ⟨_, _, _, _, _, _, _, _, _, _, _, _, _, rfl⟩
  have em : evi (C 8).cn (capR 2 8) [some (.slst (ns.map W.int)), none, none, none, none, none, none, none, none, none, none, none, none, none] [] = .ok ((List.range m).map (fun k : Nat => W.int (0 + (k : Int))), []) [] := em
  refine ⟨h', ?_⟩
  rw [runF_of rfl, law_body]
  show gcF false [] (endF (evSs (C 8) (.cons (.for (.name 1) (capR 2 8) lF) (.cons lR .nil)) [some (.slst (ns.map W.int)), none, none, none, none, none, none, none, none, none, none, none, none, none] [])) = _
  rw [ss_cons, s_for_, em, liftE_ok, e, seqS_nx, ss_one, R_ok _ _ 3]
  rfl
end L03
set_option maxRecDepth 100000
set_option maxHeartbeats 4000000
--LAWTRUE
open PySem PySem.W PyProof.Rows
set_option maxHeartbeats 0 in
theorem PySem.Challenge.cw_seenchoices_k03_integers_scaled_holds : PySem.Challenge.rw_seenchoices_k03_integers_scaled.Holds := by
  w_on; o_law; k_head; (case hw => w_witness2)
  k_fill
  refine MP.walkG (l := PySem.Challenge.rw_seenchoices_k03_integers_scaled) (n := 63) (k := 12) (x := "_law_script") (m := MP.runF (L03.C 8) L03.d_law) rfl (by decide) rfl ⟨rfl, by decide, by decide⟩ (by decide +kernel) (fun w h Y => PySem.W.kIn_of Y) ?F L03.law_true
  case F =>
    intro w mg fa h KX G hmg
    refine' L03.all_mk KX G hmg ?a0 ?l0 ?c0 ?k0 ?a1 ?l1 ?c1 ?k1 ?a2 ?l2 ?c2 ?k2 ?a3 ?l3 ?c3 ?k3 ?a4 ?l4 ?c4 ?k4 ?a5 ?l5 ?c5 ?k5 ?a6 ?l6 ?c6 ?k6 ?a7 ?l7 ?c7 ?k7 ?a8 ?l8 ?c8 ?k8 ?a9 ?l9 ?c9 ?k9 ?a10 ?l10 ?c10 ?k10 ?a11 ?l11 ?c11 ?k11 ?a12 ?l12 ?c12 ?k12 ?a13 ?l13 ?c13 ?k13 ?a14 ?l14 ?c14 ?k14 ?aC0 ?aC1 ?eC1 ?tC1 ?iC1 ?rd0 ?ga0 ?in0 ?xL0 ?sa0 ?gax0 ?gg0 ?nb0 ?iN0 ?tI0 ?lI0 ?cI0 ?kI0 ?kC0 ?hC0 ?su0 ?hb
    (case a0 => k_is)
    (case l0 => k_is)
    (case c0 => k_is)
    (case k0 => k_is)
    (case a1 => k_is)
    (case l1 => k_is)
    (case c1 => k_is)
    (case k1 => k_is)
    (case a2 => k_is)
    (case l2 => k_is)
    (case c2 => k_is)
    (case k2 => k_is)
    (case a3 => k_is)
    (case l3 => k_is)
    (case c3 => k_is)
    (case k3 => k_is)
    (case a4 => k_is)
    (case l4 => k_is)
    (case c4 => k_is)
    (case k4 => k_is)
    (case a5 => k_is)
    (case l5 => k_is)
    (case c5 => k_is)
    (case k5 => k_is)
    (case a6 => k_is)
    (case l6 => k_is)
    (case c6 => k_is)
    (case k6 => k_is)
    (case a7 => k_is)
    (case l7 => k_is)
    (case c7 => k_is)
    (case k7 => k_is)
    (case a8 => k_is)
    (case l8 => k_is)
    (case c8 => k_is)
    (case k8 => k_is)
    (case a9 => k_is)
    (case l9 => k_is)
    (case c9 => k_is)
    (case k9 => k_is)
    (case a10 => k_is)
    (case l10 => k_is)
    (case c10 => k_is)
    (case k10 => k_is)
    (case a11 => k_is)
    (case l11 => k_is)
    (case c11 => k_is)
    (case k11 => k_is)
    (case a12 => k_is)
    (case l12 => k_is)
    (case c12 => k_is)
    (case k12 => k_is)
    (case a13 => k_is)
    (case l13 => k_is)
    (case c13 => k_is)
    (case k13 => k_is)
    (case a14 => k_is)
    (case l14 => k_is)
    (case c14 => k_is)
    (case k14 => k_is)
    (case aC0 => k_is)
    (case aC1 => k_is)
    (case eC1 => k_is)
    (case tC1 => k_is)
    (case iC1 => k_is)
    (case rd0 => k_is)
    (case ga0 => k_is)
    (case in0 => k_is)
    (case xL0 => k_is)
    (case sa0 => k_is)
    (case gax0 => k_is)
    (case gg0 => k_is)
    (case nb0 => k_is)
    (case iN0 => k_is)
    (case tI0 => k_is)
    (case lI0 => k_is)
    (case cI0 => k_is)
    (case kI0 => k_is)
    (case kC0 => k_is)
    (case hC0 => k_is)
    (case su0 => k_is)
    case hb =>
      intro x hx
      simp only [MP.bltNames, List.mem_cons, List.not_mem_nil, or_false] at hx
      rcases hx with rfl | rfl | rfl | rfl | rfl | rfl | rfl | rfl | rfl | rfl | rfl | rfl | rfl | rfl | rfl | rfl | rfl | rfl | rfl | rfl | rfl <;> k_is
