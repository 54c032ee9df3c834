import PyProof.Rows.All
import Wide.All
import OpenK.AllK
import Wide.FinOn
import HandS.Base
import HandS.Call
import HandS.List
import HandS.Text
import HandS.Comp
import HandS.Walk
import HandS.Dict
import HandS.Exc
import HandS.ExcOwn
import HandS.Wide
import HandS.TupAny
import HandS.Flow
import HandS.IsInst
import HandS.RaiseMore
import HandS.Words
import HandS.Iter
import HandS.Zip
import HandS.Conv
import HandS.Lambda
import HandS.TryOnly
import HandS.Codes
import HandS.Ends
import PySem.Challenge.RW_seenchoices_k02_words_and_names
set_option Elab.async false
set_option linter.all false
set_option maxRecDepth 100000
set_option maxHeartbeats 4000000
/-! A small interpreter for the part of Python that the program and the laws use; values without addresses, tuples immediate. -/
namespace MP
open PySem PySem.Spec PyProof.Rows L2

/-- a value: tuples are immediate, mutable objects stand in a heap by number -/
inductive W where
  | non | bl (b : Bool) | int (i : Int) | str (x : Str) | tup (ws : List W) | slst (ws : List W) | ref (n : Nat)
  deriving Inhabited

/-- an object of the heap -/
inductive O where
  | lst (ws : List W)
  | dct (kvs : List (Key × W))
  | ins (c : Str) (fs : List (Str × W))

/-- an exception: its class and its field, if any -/
structure Exn where
  cls : Str
  fs : List (Str × W)

inductive R (α : Type) where
  | ok (a : α) (h : List O)
  | exc (x : Exn) (h : List O)
  | stuck
/-- keeps simp out of what stands there -/
inductive Tag {α : Type} (a : α) : Type where
  | mk
namespace R
def bind {α β : Type} (r : R α) (f : α → List O → R β) (_t : Tag f := .mk) : R β := match r with
  | .ok a h => f a h
  | .exc x h => .exc x h
  | .stuck => .stuck
@[simp] theorem bind_ok {α β : Type} (a : α) (h : List O) (f : α → List O → R β) : (R.ok a h).bind f = f a h := rfl
@[simp] theorem bind_exc {α β : Type} (x : Exn) (h : List O) (f : α → List O → R β) : (R.exc x h : R α).bind f = .exc x h := rfl
@[simp] theorem bind_stuck {α β : Type} (f : α → List O → R β) : (R.stuck : R α).bind f = .stuck := rfl
end R
/-- where no exception may come out -/
def noX {α : Type} (r : R α) : R α := match r with
  | .ok a h => .ok a h
  | _ => .stuck
/-- the locals: by slot -/
abbrev Lo := List (Option W)
/-- on only where a check holds -/
def chk {α : Type} (b : Bool) (r : R α) : R α := if b = true then r else .stuck
@[simp] theorem chk_true {α : Type} (r : R α) : chk true r = r := rfl

/-! ### syntax -/
mutual
inductive Me where
  | var (i : Nat)
  | glob (x : Str)
  | non | bl (b : Bool) | int (i : Int) | str (x : Str)
  | tup (es : Mes)
  | lst (es : Mes)
  | dct (kvs : Mks)
  | lrep (a n : Me)
  | lcat (a b : Me)
  | lcut (a : Me) (lo hi : Mo)
  | bin (op : Operator) (a b : Me)
  | neg (a : Me)
  | not (a : Me)
  | boolop (op : BoolOp) (es : Mes)
  | cmp (op : CmpOp) (a b : Me)
  | chain (op1 op2 : CmpOp) (a b c : Me)
  | ife (c a b : Me)
  | call (f : Str) (es : Mes)
  | blt (f : Str) (es : Mes)
  | isi (a : Me) (ts : List String)
  | sub (a i : Me)
  | slice (a : Me) (lo hi : Mo)
  | attr (a : Me) (f : Str)
  | bm (m : Str) (a : Me) (es : Mes)
  | lcomp (elt : Me) (tg : Mt) (src : Mi) (ifs : Mo) (own : List Nat)
inductive Mes where
  | nil
  | cons (e : Me) (es : Mes)
inductive Mks where
  | nil
  | cons (k v : Me) (r : Mks)
inductive Mo where
  | none
  | some (e : Me)
inductive Mt where
  | name (i : Nat)
  | tup (ts : Mts)
  | sub (a i : Me)
inductive Mts where
  | nil
  | cons (t : Mt) (ts : Mts)
inductive Mi where
  | val (e : Me)
  | range (es : Mes)
  | zip (a b : Me)
  | enum (a : Me)
end
mutual
inductive Ms where
  | asg (t : Mt) (e : Me)
  | par (i j : Nat) (a b : Me)
  | expr (e : Me)
  | ret (e : Me)
  | retN
  | pass | brk | cont
  | ife (c : Me) (a b : Mss)
  | for (t : Mt) (s : Mi) (b : Mss)
  | while (c : Me) (b : Mss)
  | raise (c : Str) (es : Mes)
  | try (b : Mss) (c : Str) (i : Option Nat) (s : Mss)
inductive Mss where
  | nil
  | cons (s : Ms) (ss : Mss)
end

/-! ### operations on values -/
/-- the data that a value is, some levels deep -/
def toD (h : List O) : Nat → W → Option PyData
  | _, .non => some .none
  | _, .bl b => some (.bool b)
  | _, .int i => some (.int i)
  | _, .str x => some (.str x)
  | 0, .tup _ => none
  | 0, .slst _ => none
  | 0, .ref _ => none
  | n + 1, .tup ws => (ws.mapM (toD h n)).map .tuple
  | n + 1, .slst ws => (ws.mapM (toD h n)).map .list
  | n + 1, .ref i => match h[i]? with
    | some (.lst ws) => (ws.mapM (toD h n)).map .list
    | _ => none
abbrev dDepth : Nat := 12

/-- scalars that the machine compares at once -/
def scalW : W → W → Bool
  | .non, .non => true | .non, .int _ => true | .int _, .non => true | .non, .bl _ => true | .bl _, .non => true | .non, .str _ => true | .str _, .non => true
  | .int _, .int _ => true | .bl _, .bl _ => true | .str _, .str _ => true
  | .int _, .str _ => true | .str _, .int _ => true | .bl _, .str _ => true | .str _, .bl _ => true
  | _, _ => false
def eqS : W → W → Bool
  | .non, .non => true
  | .int i, .int j => i == j
  | .bl i, .bl j => i == j
  | .str i, .str j => i == j
  | _, _ => false
/-- == -/
def eqW (h : List O) (x y : W) : Option Bool :=
  if scalW x y = true then some (eqS x y) else
  match toD h dDepth x, toD h dDepth y with
  | some d, some e => if (SeqAt.shaped d && SeqAt.shaped e) = true then some (PyData.eqv d e) else none
  | _, _ => none

def flatW : W → Bool
  | .non => true | .bl _ => true | .int _ => true | .str _ => true
  | _ => false
def eqF : W → W → Bool
  | .non, .non => true
  | .bl a, .bl b => a == b
  | .bl a, .int b => (if a then 1 else 0) == b
  | .int a, .bl b => a == (if b then 1 else 0)
  | .int a, .int b => a == b
  | .str a, .str b => a == b
  | _, _ => false
/-- the items of a list or a tuple -/
def seqW (h : List O) : W → Option (List W)
  | .tup ws => some ws
  | .slst ws => some ws
  | .ref n => match h[n]? with
    | some (.lst ws) => some ws
    | _ => none
  | _ => none
def oB (o : Option Bool) (h : List O) : R W := match o with
  | some b => .ok (.bl b) h
  | none => .stuck
def inW (h : List O) (x y : W) : Option Bool := match x, y with
  | .str a, .str b => some (!(Builtin.Str.occurrences b a 0 b.length 1).isEmpty)
  | x, y => match seqW h y with
    | some ws => if (flatW x && ws.all flatW) = true then some (ws.any fun z => eqF z x) else none
    | none => none
def isW (x y : W) : Option Bool := match y with
  | .non => some (match x with | .non => true | _ => false)
  | _ => none
def cmpI (op : CmpOp) (i j : Int) : Bool := match op with
  | .Lt => decide (i < j) | .LtE => decide (i ≤ j) | .Gt => decide (j < i) | .GtE => decide (j ≤ i)
  | _ => false
def cmpW (op : CmpOp) (x y : W) (h : List O) : R W := match op with
  | .Eq => oB (eqW h x y) h
  | .NotEq => oB ((eqW h x y).map (!·)) h
  | .In => oB (inW h x y) h
  | .NotIn => oB ((inW h x y).map (!·)) h
  | .Is => oB (isW x y) h
  | .IsNot => oB ((isW x y).map (!·)) h
  | op => match x, y with
    | .int i, .int j => .ok (.bl (cmpI op i j)) h
    | _, _ => .stuck

def mulOk (i j : Int) : Bool := decide (-(2 ^ 64) < i ∧ i < 2 ^ 64) || (decide (-(2 ^ 64) < j ∧ j < 2 ^ 64) || decide (i.natAbs.log2 + j.natAbs.log2 < 1000000))
def divOk (j : Int) : Bool := decide (j ≠ 0 ∧ j.natAbs < 1073741824) || decide (0 < j ∧ j.natAbs.log2 < 9000)
def powOk (i j : Int) : Bool := decide (0 ≤ j ∧ j ≤ 1000000 ∧ i.natAbs < 2 ^ 64)
def alloc (o : O) (h : List O) : R W := .ok (.ref h.length) (h ++ [o])
def binW (op : Operator) (x y : W) (h : List O) : R W := match op, x, y with
  | .Add, .int i, .int j => .ok (.int (i + j)) h
  | .Add, .tup a, .tup b => chk (decide (a.length + b.length ≤ sizeLine)) (.ok (.tup (a ++ b)) h)
  | .Add, .ref m, .ref n => match h[m]?, h[n]? with
    | some (.lst a), some (.lst b) => chk (decide (a.length + b.length ≤ sizeLine)) (alloc (.lst (a ++ b)) h)
    | _, _ => .stuck
  | .Add, .str i, .str j => chk (decide (i.length + j.length ≤ sizeLine)) (.ok (.str (i ++ j)) h)
  | .Sub, .int i, .int j => .ok (.int (i - j)) h
  | .Mult, .int i, .int j => chk (mulOk i j) (.ok (.int (i * j)) h)
  | .FloorDiv, .int i, .int j => chk (divOk j) (.ok (.int (i.fdiv j)) h)
  | .Mod, .int i, .int j => chk (decide (j ≠ 0)) (.ok (.int (i.fmod j)) h)
  | .Pow, .int i, .int j => chk (powOk i j) (.ok (.int (i ^ j.toNat)) h)
  | _, _, _ => .stuck
def truW (h : List O) : W → Option Bool
  | .non => some false
  | .bl b => some b
  | .int i => some (i != 0)
  | .str x => if x.length ≤ sizeLine then some ((x.length : Int) != 0) else none
  | .tup ws => some (!ws.isEmpty)
  | .slst ws => some (!ws.isEmpty)
  | .ref n => match h[n]? with
    | some (.lst ws) => some (!ws.isEmpty)
    | _ => none
def truR (h : List O) (x : W) : R Bool := match truW h x with
  | some b => .ok b h
  | none => .stuck
def subW (x y : W) (h : List O) : R W := match x, y with
  | .str z, .int i => chk (decide (z.length ≤ sizeLine)) (match atI z.cps.toList i with
    | some c => .ok (.str ⟨#[c]⟩) h
    | none => .stuck)
  | x, .int i => match seqW h x with
    | some ws => match atI ws i with
      | some w => .ok w h
      | none => .stuck
    | none => .stuck
  | _, _ => .stuck
/-- the items of xs[lo:hi] -/
def cutW {α : Type} (xs : List α) (lo hi : Option Int) : List α := (xs.drop (HT.sIx xs.length 0 lo)).take (HT.sIx xs.length xs.length hi - HT.sIx xs.length 0 lo)
def wType : W → List O → Option String
  | .non, _ => some "NoneType"
  | .bl _, _ => some "bool"
  | .int _, _ => some "int"
  | .str _, _ => some "str"
  | .tup _, _ => some "tuple"
  | .slst _, _ => some "list"
  | .ref n, h => match h[n]? with
    | some (.lst _) => some "list"
    | some (.dct _) => some "dict"
    | _ => none
end MP
set_option maxRecDepth 100000
set_option maxHeartbeats 4000000
namespace MP
open PySem PySem.Spec PyProof.Rows L2

mutual
def W.beq : W → W → Bool
  | .non, .non => true
  | .bl a, .bl b => a == b
  | .int a, .int b => a == b
  | .str a, .str b => decide (a = b)
  | .tup a, .tup b => W.beqs a b
  | .slst a, .slst b => W.beqs a b
  | .ref a, .ref b => a == b
  | _, _ => false
def W.beqs : List W → List W → Bool
  | [], [] => true
  | x :: xs, y :: ys => W.beq x y && W.beqs xs ys
  | _, _ => false
end
mutual
theorem W.beq_refl : ∀ a : W, W.beq a a = true
  | .non => rfl
  | .bl a => by simp [W.beq]
  | .int a => by simp [W.beq]
  | .str a => by simp [W.beq]
  | .tup a => by rw [W.beq]; exact W.beqs_refl a
  | .slst a => by rw [W.beq]; exact W.beqs_refl a
  | .ref a => by simp [W.beq]
theorem W.beqs_refl : ∀ a : List W, W.beqs a a = true
  | [] => rfl
  | x :: xs => by rw [W.beqs, W.beq_refl x, W.beqs_refl xs]; rfl
end
mutual
theorem W.beq_eq : ∀ {a b : W}, W.beq a b = true → a = b
  | .non, b, h => by cases b <;> first | rfl | (simp [W.beq] at h; done)
  | .bl a, b, h => by cases b <;> first | (simp [W.beq] at h; rw [h]; done) | (simp [W.beq] at h; done)
  | .int a, b, h => by cases b <;> first | (simp [W.beq] at h; rw [h]; done) | (simp [W.beq] at h; done)
  | .str a, b, h => by cases b <;> first | (simp [W.beq] at h; rw [h]; done) | (simp [W.beq] at h; done)
  | .ref a, b, h => by cases b <;> first | (simp [W.beq] at h; rw [h]; done) | (simp [W.beq] at h; done)
  | .tup a, b, h => by
    cases b with
    | tup b => rw [W.beq] at h; rw [W.beqs_eq h]
    | _ => simp [W.beq] at h
  | .slst a, b, h => by
    cases b with
    | slst b => rw [W.beq] at h; rw [W.beqs_eq h]
    | _ => simp [W.beq] at h
theorem W.beqs_eq : ∀ {a b : List W}, W.beqs a b = true → a = b
  | [], [], _ => rfl
  | x :: xs, y :: ys, h => by
    rw [W.beqs, Bool.and_eq_true] at h
    rw [W.beq_eq h.1, W.beqs_eq h.2]
  | [], _ :: _, h => by simp [W.beqs] at h
  | _ :: _, [], h => by simp [W.beqs] at h
end

/-! ### what is walked: the items, and the lists of the heap that must stay as they are meanwhile -/
abbrev Gd := List (Nat × List W)
def gOk (h : List O) (g : Nat × List W) : Bool := match h[g.1]? with
  | some (.lst ws) => W.beqs ws g.2
  | _ => false
def gsOk (h : List O) (gs : Gd) : Bool := gs.all (gOk h)
theorem gOk_of {h : List O} {n : Nat} {ws : List W} (e : h[n]? = some (.lst ws)) : gOk h (n, ws) = true := by
  unfold gOk
  rw [e]
  exact W.beqs_refl ws
theorem gsOk_nil {h : List O} : gsOk h [] = true := rfl
theorem gsOk_one {h : List O} {n : Nat} {ws : List W} (e : h[n]? = some (.lst ws)) : gsOk h [(n, ws)] = true := by
  unfold gsOk
  rw [List.all_cons, gOk_of e]
  rfl

/-- what an expression does: its value, its truth, its items where it stands for a list (e: a new list that nobody else holds) -/
structure Sm where
  v : Lo → List O → R W
  t : Lo → List O → R Bool
  l : Lo → List O → R (List W)
  e : Bool
def chars (x : Str) : List W := x.cps.toList.map fun c => .str ⟨#[c]⟩
def seqR (h : List O) (w : W) : R (List W) := match seqW h w with
  | some ws => .ok ws h
  | none => .stuck
/-- a plain value -/
def smV (v : Lo → List O → R W) : Sm := ⟨v, fun ℓ h => (v ℓ h).bind fun w h => truR h w, fun ℓ h => (v ℓ h).bind fun w h => seqR h w, false⟩
/-- a new list -/
def smL (l : Lo → List O → R (List W)) : Sm := ⟨fun ℓ h => (l ℓ h).bind fun ws h => alloc (.lst ws) h, fun ℓ h => (l ℓ h).bind fun ws h => .ok (!ws.isEmpty) h, l, true⟩
def unBl (r : R W) : R Bool := r.bind fun w h => match w with
  | .bl b => .ok b h
  | _ => .stuck
/-- an operand: a new list's items, or a value -/
abbrev Opd := List W ⊕ W
def Sm.opd (s : Sm) (ℓ : Lo) (h : List O) : R Opd := if s.e = true then (s.l ℓ h).bind fun ws h => .ok (.inl ws) h else (s.v ℓ h).bind fun w h => .ok (.inr w) h
def datO (h : List O) : Opd → Option PyData
  | .inl ws => (ws.mapM (toD h dDepth)).map .list
  | .inr w => toD h dDepth w
def eqO (h : List O) (a b : Opd) : Option Bool := match a, b with
  | .inr x, .inr y => eqW h x y
  | a, b => match datO h a, datO h b with
    | some d, some e => if (SeqAt.shaped d && SeqAt.shaped e) = true then some (PyData.eqv d e) else none
    | _, _ => none
def inO (h : List O) (a b : Opd) : Option Bool := match a, b with
  | .inr x, .inr y => inW h x y
  | .inr x, .inl ws => if (flatW x && ws.all flatW) = true then some (ws.any fun z => eqF z x) else none
  | _, _ => none
def cmpO (op : CmpOp) (a b : Opd) (h : List O) : R W := match op with
  | .Eq => oB (eqO h a b) h
  | .NotEq => oB ((eqO h a b).map (!·)) h
  | .In => oB (inO h a b) h
  | .NotIn => oB ((inO h a b).map (!·)) h
  | op => match a, b with
    | .inr x, .inr y => cmpW op x y h
    | _, _ => .stuck

/-- a list that may be written -/
def lstO (h : List O) : Opd → R (List W)
  | .inl ws => .ok ws h
  | .inr (.ref n) => match h[n]? with
    | some (.lst ws) => .ok ws h
    | _ => .stuck
  | _ => .stuck
/-- a list -/
def lsqO (h : List O) : Opd → R (List W)
  | .inl ws => .ok ws h
  | .inr (.slst ws) => .ok ws h
  | .inr (.ref n) => match h[n]? with
    | some (.lst ws) => .ok ws h
    | _ => .stuck
  | _ => .stuck

/-! ### loops -/
/-- the turns of a comprehension: each gives an item or nothing -/
def lcLoop (f : W → List O → R (Option W)) (gs : Gd) : Nat → List W → List O → R (List W)
  | _, [], h => chk (gsOk h gs) (.ok [] h)
  | k, w :: ws, h => chk (gsOk h gs) ((noX (f w h)).bind fun o h1 => match o with
    | some y => chk (decide (k < sizeLine)) ((lcLoop f gs (k + 1) ws h1).bind fun r h2 => .ok (y :: r) h2)
    | none => lcLoop f gs k ws h1)
def rngN (i j c : Int) : Nat := if 0 < c then ((j - i + c - 1) / c).toNat else ((i - j - c - 1) / (-c)).toNat
def rngOk (i : Int) : Bool := decide (-(2 ^ 62) ≤ i ∧ i < 2 ^ 62)
def rngL (i : Int) (n : Nat) : List W := (List.range n).map fun k : Nat => W.int (i + k)
def zipW : List W → List W → List W
  | x :: xs, y :: ys => .tup [x, y] :: zipW xs ys
  | _, _ => []
def enumW : Nat → List W → List W
  | _, [] => []
  | k, x :: xs => .tup [.int k, x] :: enumW (k + 1) xs

def rngM (ws : List W) (h : List O) : R (List W × Gd) := match ws with
    | [.int j] => chk (rngOk j) (.ok (rngL 0 j.toNat, []) h)
    | [.int i, .int j] => chk (rngOk i && rngOk j) (.ok (rngL i (j - i).toNat, []) h)
    | _ => .stuck
/-! ### built-in functions -/
def isiB (t T : String) : Bool := t == T || (t == "bool" && T == "int")
def isiW (ts : List String) (w : W) (h : List O) : R W := match wType w h with
  | some t => .ok (.bl (ts.any fun T => isiB t T)) h
  | none => .stuck
def unInts : List W → Option (List Int)
  | [] => some []
  | .int i :: r => (unInts r).map (i :: ·)
  | _ => none
def unBls : List W → Option (List Bool)
  | [] => some []
  | .bl i :: r => (unBls r).map (i :: ·)
  | _ => none
def unStrs : List W → Option (List Str)
  | [] => some []
  | .str i :: r => (unStrs r).map (i :: ·)
  | _ => none
/-- of one list or tuple -/
def bltL (f : Str) (ws : List W) (h : List O) : R W :=
  if f = "all" then (match unBls ws with | some bs => .ok (.bl (bs.all id)) h | none => .stuck)
  else if f = "any" then (match unBls ws with | some bs => .ok (.bl (bs.any id)) h | none => .stuck)
  else if f = "sum" then (match unInts ws with | some ns => .ok (.int ns.sum) h | none => .stuck)
  else .stuck
def lenW (w : W) (h : List O) : R W := match w with
  | .str z => chk (decide (z.length ≤ sizeLine)) (.ok (.int z.length) h)
  | w => (seqR h w).bind fun ws h => .ok (.int ws.length) h
/-- of values -/
def bltV (f : Str) (ws : List W) (h : List O) : R W :=
  if f = "abs" then (match ws with | [.int i] => .ok (.int (if i < 0 then -i else i)) h | _ => .stuck)
  else if f = "max" then (match ws with | [.int i, .int j] => .ok (.int (if j > i then j else i)) h | _ => .stuck)
  else if f = "min" then (match ws with | [.int i, .int j] => .ok (.int (if j < i then j else i)) h | _ => .stuck)
  else .stuck
def reprO (h : List O) (a : Opd) : R W := match datO h a with
  | some d => chk (d.showable && decide (d.shown.length ≤ sizeLine)) (.ok (.str d.shown) h)
  | none => .stuck
def joinR (a : Str) (ws : List W) (h : List O) : R W := match unStrs ws with
  | some ys => chk (decide ((ys.map (·.length)).sum + ys.length * a.length ≤ 16777216)) (.ok (.str (Txt.join a ys)) h)
  | none => .stuck
def appR (x y : W) (h : List O) : R W := match x with
  | .ref n => match h[n]? with
    | some (.lst ws) => chk (decide (ws.length < sizeLine)) (.ok .non (h.set n (.lst (ws ++ [y]))))
    | _ => .stuck
  | _ => .stuck
/-- is it a list that may be written -/
def isLst (h : List O) : W → Bool
  | .ref n => match h[n]? with
    | some (.lst _) => true
    | _ => false
  | _ => false
/-- methods of built-in types, with values -/
def bmV (m : Str) (x : W) (ws : List W) (h : List O) : R W :=
  if m = "append" then (match ws with | [y] => appR x y h | _ => .stuck)
  else .stuck

/-- the key that a value is -/
def keyW : W → Option Key
  | .int i => some (.inl i)
  | .str x => some (.inr x)
  | _ => none
def putW (kvs : List (Key × W)) (k : Key) (v : W) : List (Key × W) :=
  if (kvs.any fun kv => decide (kv.1 = k)) = true then kvs.map (fun kv => if kv.1 = k then (kv.1, v) else kv) else kvs ++ [(k, v)]
def mergeW (kvs more : List (Key × W)) : List (Key × W) := more.foldl (fun acc kv => putW acc kv.1 kv.2) kvs
/-! ### targets -/
def setSub (x i w : W) (h : List O) : R Unit := match x, i with
  | .ref n, .int k => match h[n]? with
    | some (.lst ws) => match ixN ws.length k with
      | some j => .ok () (h.set n (.lst (ws.set j w)))
      | none => .stuck
    | _ => .stuck
  | _, _ => .stuck

/-- what is walked: a list, a tuple, a text -/
def seqO (st : Bool) (h : List O) : Opd → R (List W × Gd)
  | .inl ws => .ok (ws, []) h
  | .inr (.tup ws) => .ok (ws, []) h
  | .inr (.slst ws) => .ok (ws, []) h
  | .inr (.str x) => if st = true then .ok (chars x, []) h else .stuck
  | .inr (.ref n) => match h[n]? with
    | some (.lst ws) => .ok (ws, [(n, ws)]) h
    | _ => .stuck
  | _ => .stuck
def tupO : Opd → Bool
  | .inr (.tup _) => true
  | _ => false

/-! ### evaluation -/
structure Cn where
  call : Str → List W → List O → R W
  gl : Str → Option W
  fuel : Nat
def wipeL (ℓ : Lo) : List Nat → Lo
  | [] => ℓ
  | v :: vs => (wipeL ℓ vs).set v none
abbrev Tg := W → Lo → List O → R Lo
abbrev Tgs := List W → Lo → List O → R Lo
def ofO {α : Type} (o : Option α) (h : List O) : R α := match o with
  | some a => .ok a h
  | none => .stuck
def getL (ℓ : Lo) (i : Nat) : Option W := match ℓ[i]? with
  | some (some w) => some w
  | _ => none
abbrev Po := Lo → List O → R (Option Int)
mutual
def ev (C : Cn) : Me → Sm
  | .var i => smV fun ℓ h => ofO (getL ℓ i) h
  | .glob x => smV fun _ h => ofO (C.gl x) h
  | .non => smV fun _ h => .ok .non h
  | .bl b => smV fun _ h => .ok (.bl b) h
  | .int i => smV fun _ h => .ok (.int i) h
  | .str x => smV fun _ h => .ok (.str x) h
  | .tup es => smV fun ℓ h => (evs C es ℓ h).bind fun ws h => chk (decide (ws.length ≤ sizeLine)) (.ok (.tup ws) h)
  | .lst es => smL fun ℓ h => (evs C es ℓ h).bind fun ws h => chk (decide (ws.length ≤ sizeLine)) (.ok ws h)
  | .dct kvs => smV fun ℓ h => (evd C kvs ℓ h).bind fun kvs h => chk (decide (kvs.length ≤ 15)) (alloc (.dct (mergeW [] kvs)) h)
  | .lrep a n => smL fun ℓ h => ((ev C a).l ℓ h).bind fun ws h => ((ev C n).v ℓ h).bind fun y h => match y with
    | .int k => chk (decide (-(2 ^ 63) ≤ k ∧ k < 2 ^ 63) && decide (ws.length * k.toNat ≤ sizeLine)) (.ok (List.replicate k.toNat ws).flatten h)
    | _ => .stuck
  | .lcat a b => smL fun ℓ h => ((ev C a).opd ℓ h).bind fun x h => ((ev C b).opd ℓ h).bind fun y h => (lstO h x).bind fun xs h => (lstO h y).bind fun ys h => chk (decide (xs.length + ys.length ≤ sizeLine)) (.ok (xs ++ ys) h)
  | .lcut a lo hi => smL fun ℓ h => ((ev C a).opd ℓ h).bind fun x h => (evo C lo ℓ h).bind fun l h => (evo C hi ℓ h).bind fun u h => (lsqO h x).bind fun ws h => .ok (cutW ws l u) h
  | .bin op a b => smV fun ℓ h => ((ev C a).v ℓ h).bind fun x h => ((ev C b).v ℓ h).bind fun y h => binW op x y h
  | .neg a => smV fun ℓ h => ((ev C a).v ℓ h).bind fun x h => match x with | .int i => .ok (.int (-i)) h | _ => .stuck
  | .not a => { smV (fun ℓ h => ((ev C a).v ℓ h).bind fun w h => (truR h w).bind fun b h => .ok (.bl (!b)) h) with t := fun ℓ h => ((ev C a).t ℓ h).bind fun b h => .ok (!b) h }
  | .boolop op es => evb C op es
  | .cmp op a b => let v := fun ℓ h => ((ev C a).opd ℓ h).bind fun x h => ((ev C b).opd ℓ h).bind fun y h => cmpO op x y h
    { smV v with t := fun ℓ h => unBl (v ℓ h) }
  | .chain op1 op2 a b c => let v := fun ℓ h => ((ev C a).v ℓ h).bind fun x h => ((ev C b).v ℓ h).bind fun y h => (unBl (cmpW op1 x y h)).bind fun k h =>
      if k = true then ((ev C c).v ℓ h).bind fun z h => cmpW op2 y z h else .ok (.bl false) h
    { smV v with t := fun ℓ h => unBl (v ℓ h) }
  | .ife c a b => { smV (fun ℓ h => ((ev C c).t ℓ h).bind fun k h => if k = true then (ev C a).v ℓ h else (ev C b).v ℓ h) with
      t := fun ℓ h => ((ev C c).t ℓ h).bind fun k h => if k = true then (ev C a).t ℓ h else (ev C b).t ℓ h }
  | .call f es => smV fun ℓ h => (evs C es ℓ h).bind fun ws h => C.call f ws h
  | .isi a ts => smV fun ℓ h => ((ev C a).v ℓ h).bind fun w h => isiW ts w h
  | .blt f es => evk C f es
  | .sub a i => smV fun ℓ h => ((ev C a).opd ℓ h).bind fun x h => ((ev C i).v ℓ h).bind fun y h => match x with
    | .inl ws => match y with
      | .int i => ofO (atI ws i) h
      | _ => .stuck
    | .inr x => subW x y h
  | .slice a lo hi => smV fun ℓ h => ((ev C a).v ℓ h).bind fun x h => (evo C lo ℓ h).bind fun l h => (evo C hi ℓ h).bind fun u h => match x with
    | .str z => chk (decide (z.length ≤ sizeLine)) (.ok (.str (cutS z l u)) h)
    | .tup ws => .ok (.tup (cutW ws l u)) h
    | x => (lsqO h (.inr x)).bind fun ws h => alloc (.lst (cutW ws l u)) h
  | .attr a f => smV fun ℓ h => ((ev C a).v ℓ h).bind fun x h => .stuck
  | .bm m a es => evm C m (ev C a) es
  | .lcomp elt tg src ifs own => smL fun ℓ h => (evi C src ℓ h).bind fun r h => lcLoop (fun w h => (evt C tg w (wipeL ℓ own) h).bind fun ℓ2 h => (evf C ifs ℓ2 h).bind fun k h =>
      if k = true then ((ev C elt).v ℓ2 h).bind fun y h => .ok (some y) h else .ok none h) r.2 0 r.1 h
def evs (C : Cn) : Mes → Lo → List O → R (List W)
  | .nil => fun _ h => .ok [] h
  | .cons e es => fun ℓ h => ((ev C e).v ℓ h).bind fun w h => (evs C es ℓ h).bind fun ws h => .ok (w :: ws) h
/-- the pairs of a display -/
def evd (C : Cn) : Mks → Lo → List O → R (List (Key × W))
  | .nil => fun _ h => .ok [] h
  | .cons k v r => fun ℓ h => ((ev C k).v ℓ h).bind fun x h => ((ev C v).v ℓ h).bind fun y h => match keyW x with
    | some k => (evd C r ℓ h).bind fun kvs h => .ok ((k, y) :: kvs) h
    | none => .stuck
/-- and, or -/
def evb (C : Cn) (op : BoolOp) : Mes → Sm
  | .nil => smV fun _ _ => .stuck
  | .cons e .nil => ev C e
  | .cons e (.cons e2 es) => { smV (fun ℓ h => ((ev C e).v ℓ h).bind fun w h => (truR h w).bind fun k h => match op with
      | .And => if k = true then (evb C op (.cons e2 es)).v ℓ h else .ok w h
      | .Or => if k = true then .ok w h else (evb C op (.cons e2 es)).v ℓ h) with
    t := fun ℓ h => ((ev C e).t ℓ h).bind fun k h => match op with
      | .And => if k = true then (evb C op (.cons e2 es)).t ℓ h else .ok false h
      | .Or => if k = true then .ok true h else (evb C op (.cons e2 es)).t ℓ h }
/-- a built-in function -/
def evk (C : Cn) (f : Str) : Mes → Sm
  | .cons e .nil =>
    if f = "len" then smV fun ℓ h => ((ev C e).opd ℓ h).bind fun x h => match x with
      | .inl ws => .ok (.int ws.length) h
      | .inr w => lenW w h
    else if f = "repr" then smV fun ℓ h => ((ev C e).opd ℓ h).bind fun x h => reprO h x
    else if f = "list" then smL fun ℓ h => (ev C e).l ℓ h
    else if f = "abs" then smV fun ℓ h => ((ev C e).v ℓ h).bind fun w h => bltV f [w] h
    else if f = "tuple" then smV fun ℓ h => ((ev C e).l ℓ h).bind fun ws h => .ok (.tup ws) h
    else smV fun ℓ h => ((ev C e).opd ℓ h).bind fun x h => (lsqO h x).bind fun ws h => bltL f ws h
  | .nil => smV fun ℓ h => bltV f [] h
  | .cons a (.cons b es) => smV fun ℓ h => ((ev C a).v ℓ h).bind fun x h => ((ev C b).v ℓ h).bind fun y h => (evs C es ℓ h).bind fun ws h => bltV f (x :: y :: ws) h
/-- a method of a built-in type -/
def evm (C : Cn) (m : Str) (s : Sm) : Mes → Sm
  | .cons e .nil =>
    if m = "join" then smV fun ℓ h => (s.v ℓ h).bind fun x h => match x with
      | .str a => ((ev C e).l ℓ h).bind fun ws h => joinR a ws h
      | _ => .stuck
    else smV fun ℓ h => (s.v ℓ h).bind fun x h => chk (isLst h x) (((ev C e).v ℓ h).bind fun w h => bmV m x [w] h)
  | .nil => smV fun ℓ h => (s.v ℓ h).bind fun x h => bmV m x [] h
  | .cons a (.cons b es) => smV fun ℓ h => (s.v ℓ h).bind fun x h => ((ev C a).v ℓ h).bind fun y h => ((ev C b).v ℓ h).bind fun z h => (evs C es ℓ h).bind fun ws h => bmV m x (y :: z :: ws) h
def evo (C : Cn) : Mo → Lo → List O → R (Option Int)
  | .none => fun _ h => .ok none h
  | .some e => fun ℓ h => ((ev C e).v ℓ h).bind fun w h => match w with
    | .int i => .ok (some i) h
    | _ => .stuck
def evf (C : Cn) : Mo → Lo → List O → R Bool
  | .none => fun _ h => .ok true h
  | .some e => fun ℓ h => (ev C e).t ℓ h
def evt (C : Cn) : Mt → Tg
  | .name i => fun w ℓ h => .ok (ℓ.set i (some w)) h
  | .tup ts => fun w ℓ h => match seqW h w with
    | some ws => evts C ts ws ℓ h
    | none => .stuck
  | .sub a i => fun w ℓ h => ((ev C a).v ℓ h).bind fun x h => ((ev C i).v ℓ h).bind fun y h => (setSub x y w h).bind fun _ h => .ok ℓ h
def evts (C : Cn) : Mts → Tgs
  | .nil => fun ws ℓ h => match ws with
    | [] => .ok ℓ h
    | _ => .stuck
  | .cons t ts => fun ws ℓ h => match ws with
    | w :: ws => (noX (evt C t w ℓ h)).bind fun ℓ h => evts C ts ws ℓ h
    | [] => .stuck
def evi (C : Cn) : Mi → Lo → List O → R (List W × Gd)
  | .val e => fun ℓ h => ((ev C e).opd ℓ h).bind fun x h => seqO true h x
  | .range es => fun ℓ h => (evs C es ℓ h).bind fun ws h => rngM ws h
  | .zip a b => fun ℓ h => ((ev C a).opd ℓ h).bind fun x h => ((ev C b).opd ℓ h).bind fun y h => chk (tupO x == tupO y) ((seqO false h x).bind fun xs h => (seqO false h y).bind fun ys h => .ok (zipW xs.1 ys.1, xs.2 ++ ys.2) h)
  | .enum a => fun ℓ h => ((ev C a).opd ℓ h).bind fun x h => chk (!tupO x) ((seqO false h x).bind fun xs h => .ok (enumW 0 xs.1, xs.2) h)
end
end MP
set_option maxRecDepth 100000
set_option maxHeartbeats 4000000
namespace MP
open PySem PySem.Spec PyProof.Rows L2

/-! ### the program at hand -/
structure Pg where
  P : Program
  w : World
  K : PySem.W.Frag
  mg : Str → Option Value
  base : Heap
  /-- where the classes stand -/
  cls : Str → Option Addr
  /-- the module's own objects, numbered first in the small heap -/
  i0 : List Addr

/-- a list that is never written: of the module's own text, or known to the object -/
def StL (K : PySem.W.Frag) (H : Hp) (a : Addr) (xs : List V) : Prop := (∃ o, H a = some (.frz o (.lst xs))) ∨
  ∃ (o : Obj) (its : Array Value) (n : Nat), K.lookup a = some o ∧ o.cls = .type "list" ∧ o.dict = none ∧ o.data = .seq its n ∧ its.size ≤ sizeLine ∧ Vals xs its.toList
theorem StL.sql {K : PySem.W.Frag} {H : Hp} {a : Addr} {xs : List V} (h : StL K H a xs) : SqL K H a xs := by
  rcases h with ⟨o, h⟩ | h
  · exact .inl (.inr ⟨o, h⟩)
  · exact .inr h
/-! ### values and their images -/
mutual
inductive VR (G : Pg) (H : Hp) (ι : List Addr) : W → V → Prop
  | non : VR G H ι .non .non
  | bl (b : Bool) : VR G H ι (.bl b) (.bl b)
  | int (i : Int) : VR G H ι (.int i) (.int i)
  | str (x : Str) : VR G H ι (.str x) (.str x)
  | tup {a : Addr} {vs : List V} {ws : List W} : SqT G.K H a vs → VRs G H ι ws vs → VR G H ι (.tup ws) (.ref a)
  | slst {a : Addr} {vs : List V} {ws : List W} : StL G.K H a vs → VRs G H ι ws vs → VR G H ι (.slst ws) (.ref a)
  | ref {n : Nat} {a : Addr} : ι[n]? = some a → VR G H ι (.ref n) (.ref a)
inductive VRs (G : Pg) (H : Hp) (ι : List Addr) : List W → List V → Prop
  | nil : VRs G H ι [] []
  | cons {w : W} {v : V} {ws : List W} {vs : List V} : VR G H ι w v → VRs G H ι ws vs → VRs G H ι (w :: ws) (v :: vs)
end
inductive FR {κ : Type} (G : Pg) (H : Hp) (ι : List Addr) : List (κ × W) → List (κ × V) → Prop
  | nil : FR G H ι [] []
  | cons {x : κ} {w : W} {v : V} {ws : List (κ × W)} {vs : List (κ × V)} : VR G H ι w v → FR G H ι ws vs → FR G H ι ((x, w) :: ws) ((x, v) :: vs)

def OR (G : Pg) (H : Hp) (ι : List Addr) (a : Addr) : O → Prop
  | .lst ws => ∃ vs, H a = some (.lst vs) ∧ VRs G H ι ws vs
  | .dct kvs => ∃ m, H a = some (.dK m) ∧ FR G H ι kvs m
  | .ins c fs => ∃ C dx vs, G.cls c = some C ∧ H a = some (.ins C dx vs) ∧ FR G H ι fs vs
structure Rel (G : Pg) (h : List O) (ι : List Addr) (H : Hp) : Prop where
  len : ι.length = h.length
  obj : ∀ (n : Nat) (o : O) (a : Addr), h[n]? = some o → ι[n]? = some a → OR G H ι a o
  inj : ∀ (m n : Nat) (a : Addr), ι[m]? = some a → ι[n]? = some a → m = n
  pre : ∃ r, ι = G.i0 ++ r
/-- from one state to a later one -/
structure Step (ι : List Addr) (H : Hp) (ι' : List Addr) (H' : Hp) : Prop where
  ext : ∃ r, ι' = ι ++ r ∧ ∀ a ∈ r, H a = none
  keep : ∀ a o, H a = some o → a ∉ ι → H' a = some o
  there : ∀ a, H a ≠ none → H' a ≠ none
  tups : ∀ a xs, Rd H a (.tup xs) → Rd H' a (.tup xs)
  frzs : ∀ a o u, H a = some (.frz o u) → H' a = some (.frz o u)
section
variable {G : Pg} {ι ι' ι1 ι2 : List Addr} {H H' H1 H2 : Hp} {h : List O}
theorem Step.refl : Step ι H ι H := ⟨⟨[], by simp, fun _ h => nomatch h⟩, fun _ _ e _ => e, fun _ e => e, fun _ _ e => e, fun _ _ _ e => e⟩
theorem Step.trans (s : Step ι H ι1 H1) (t : Step ι1 H1 ι2 H2) : Step ι H ι2 H2 := by
  obtain ⟨r, er, hr⟩ := s.ext
  obtain ⟨q, eq, hq⟩ := t.ext
  refine ⟨⟨r ++ q, by rw [eq, er, List.append_assoc], fun a ha => ?_⟩, fun a o e na => ?_, fun a e => t.there a (s.there a e), fun a xs e => t.tups a xs (s.tups a xs e), fun a o u e => t.frzs a o u (s.frzs a o u e)⟩
  · rcases List.mem_append.mp ha with ha | ha
    · exact hr a ha
    · cases e : H a with
      | none => rfl
      | some o => exact absurd (hq a ha) (s.there a (by rw [e]; exact fun z => nomatch z))
  · refine t.keep a o (s.keep a o e na) fun hm => ?_
    rw [er] at hm
    rcases List.mem_append.mp hm with hm | hm
    · exact na hm
    · rw [hr a hm] at e; cases e
theorem Step.get (s : Step ι H ι' H') {n : Nat} {a : Addr} (e : ι[n]? = some a) : ι'[n]? = some a := by
  obtain ⟨r, er, _⟩ := s.ext
  rw [er, List.getElem?_append_left (List.getElem?_eq_some_iff.mp e).1]
  exact e
theorem Step.sqT (s : Step ι H ι' H') {K : PySem.W.Frag} {a : Addr} {xs : List V} (h : SqT K H a xs) : SqT K H' a xs := by
  rcases h with h | h
  · exact .inl (s.tups a xs h)
  · exact .inr h
theorem Step.stL (s : Step ι H ι' H') {K : PySem.W.Frag} {a : Addr} {xs : List V} (h : StL K H a xs) : StL K H' a xs := by
  rcases h with ⟨o, h⟩ | h
  · exact .inl ⟨o, s.frzs a o _ h⟩
  · exact .inr h
/-- what images lean on stays -/
structure Mon (ι : List Addr) (H : Hp) (ι' : List Addr) (H' : Hp) : Prop where
  get : ∀ (n : Nat) (a : Addr), ι[n]? = some a → ι'[n]? = some a
  tups : ∀ a xs, Rd H a (.tup xs) → Rd H' a (.tup xs)
  frzs : ∀ a o u, H a = some (.frz o u) → H' a = some (.frz o u)
theorem Step.mon (s : Step ι H ι' H') : Mon ι H ι' H' := ⟨fun _ _ e => s.get e, s.tups, s.frzs⟩
mutual
theorem VR.mon (s : Mon ι H ι' H') : ∀ {w : W} {v : V}, VR G H ι w v → VR G H' ι' w v
  | _, _, .non => .non
  | _, _, .bl b => .bl b
  | _, _, .int i => .int i
  | _, _, .str x => .str x
  | _, _, .tup h r => .tup (by
      rcases h with h | h
      · exact .inl (s.tups _ _ h)
      · exact .inr h) (VRs.mon s r)
  | _, _, .slst h r => .slst (by
      rcases h with ⟨o, h⟩ | h
      · exact .inl ⟨o, s.frzs _ o _ h⟩
      · exact .inr h) (VRs.mon s r)
  | _, _, .ref e => .ref (s.get _ _ e)
theorem VRs.mon (s : Mon ι H ι' H') : ∀ {ws : List W} {vs : List V}, VRs G H ι ws vs → VRs G H' ι' ws vs
  | _, _, .nil => .nil
  | _, _, .cons r t => .cons (VR.mon s r) (VRs.mon s t)
end
mutual
theorem VR.mono (s : Step ι H ι' H') : ∀ {w : W} {v : V}, VR G H ι w v → VR G H' ι' w v
  | _, _, .non => .non
  | _, _, .bl b => .bl b
  | _, _, .int i => .int i
  | _, _, .str x => .str x
  | _, _, .tup h r => .tup (s.sqT h) (VRs.mono s r)
  | _, _, .slst h r => .slst (s.stL h) (VRs.mono s r)
  | _, _, .ref e => .ref (s.get e)
theorem VRs.mono (s : Step ι H ι' H') : ∀ {ws : List W} {vs : List V}, VRs G H ι ws vs → VRs G H' ι' ws vs
  | _, _, .nil => .nil
  | _, _, .cons r t => .cons (VR.mono s r) (VRs.mono s t)
end
theorem FR.mono {κ : Type} (s : Step ι H ι' H') : ∀ {ws : List (κ × W)} {vs : List (κ × V)}, FR G H ι ws vs → FR G H' ι' ws vs
  | _, _, .nil => .nil
  | _, _, .cons r t => .cons (r.mono s) (FR.mono s t)
theorem VRs.length : ∀ {ws : List W} {vs : List V}, VRs G H ι ws vs → ws.length = vs.length
  | _, _, .nil => rfl
  | _, _, .cons _ t => by rw [List.length_cons, List.length_cons, VRs.length t]
theorem VRs.append : ∀ {ws ws' : List W} {vs vs' : List V}, VRs G H ι ws vs → VRs G H ι ws' vs' → VRs G H ι (ws ++ ws') (vs ++ vs')
  | _, _, _, _, .nil, q => q
  | _, _, _, _, .cons r t, q => .cons r (VRs.append t q)
theorem VRs.get : ∀ {ws : List W} {vs : List V} {i : Nat} {w : W}, VRs G H ι ws vs → ws[i]? = some w → ∃ v, vs[i]? = some v ∧ VR G H ι w v
  | _, _, _, _, .nil, e => by simp at e
  | _, _, 0, _, .cons r _, e => by
    simp at e
    subst e
    exact ⟨_, rfl, r⟩
  | _, _, i + 1, _, .cons _ t, e => by
    obtain ⟨v, h1, h2⟩ := VRs.get (i := i) t (by simpa using e)
    exact ⟨v, by simpa using h1, h2⟩
theorem VRs.getV : ∀ {ws : List W} {vs : List V} {i : Nat} {v : V}, VRs G H ι ws vs → vs[i]? = some v → ∃ w, ws[i]? = some w ∧ VR G H ι w v
  | _, _, _, _, .nil, e => by simp at e
  | _, _, 0, _, .cons r _, e => by
    simp at e
    subst e
    exact ⟨_, rfl, r⟩
  | _, _, i + 1, _, .cons _ t, e => by
    obtain ⟨v, h1, h2⟩ := VRs.getV (i := i) t (by simpa using e)
    exact ⟨v, by simpa using h1, h2⟩
theorem VRs.set {w : W} {v : V} (r : VR G H ι w v) : ∀ {ws : List W} {vs : List V} (i : Nat), VRs G H ι ws vs → VRs G H ι (ws.set i w) (vs.set i v)
  | _, _, _, .nil => .nil
  | _, _, 0, .cons _ t => .cons r t
  | _, _, i + 1, .cons q t => .cons q (VRs.set r i t)
theorem VRs.take : ∀ {ws : List W} {vs : List V} (n : Nat), VRs G H ι ws vs → VRs G H ι (ws.take n) (vs.take n)
  | _, _, 0, _ => by simp; exact .nil
  | _, _, _ + 1, .nil => .nil
  | _, _, n + 1, .cons r t => .cons r (VRs.take n t)
theorem VRs.drop : ∀ {ws : List W} {vs : List V} (n : Nat), VRs G H ι ws vs → VRs G H ι (ws.drop n) (vs.drop n)
  | _, _, 0, r => r
  | _, _, _ + 1, .nil => .nil
  | _, _, n + 1, .cons _ t => VRs.drop n t
theorem VRs.cut {ws : List W} {vs : List V} (lo hi : Option Int) (r : VRs G H ι ws vs) : VRs G H ι (cutW ws lo hi) (cutV vs lo hi) := by
  unfold cutW cutV
  rw [r.length]
  exact (r.drop _).take _
theorem OR.step (s : Step ι H ι' H') {a : Addr} {o : O} (hne : H' a = H a) (r : OR G H ι a o) : OR G H' ι' a o := by
  cases o with
  | lst ws =>
    obtain ⟨vs, h1, h2⟩ := r
    exact ⟨vs, hne.trans h1, h2.mono s⟩
  | dct kvs =>
    obtain ⟨vs, h1, h2⟩ := r
    exact ⟨vs, hne.trans h1, h2.mono s⟩
  | ins c fs =>
    obtain ⟨C, dx, vs, h0, h1, h2⟩ := r
    exact ⟨C, dx, vs, h0, hne.trans h1, h2.mono s⟩
/-- a new object is tracked -/
theorem Step.new {p : Addr} {o : HO} (hp : H p = none) : Step ι H ι (upd H p o) := by
  refine ⟨⟨[], by simp, fun _ h => nomatch h⟩, fun a u e _ => ?_, fun a e => ?_, fun a xs e => ?_, fun a ob u e => ?_⟩
  · rw [upd_ne (ne_of_none e hp)]; exact e
  · by_cases ha : a = p
    · subst ha; rw [upd_same]; exact fun z => nomatch z
    · rw [upd_ne ha]; exact e
  · rcases e with e | ⟨u, e⟩
    · exact .inl (by rw [upd_ne (ne_of_none e hp)]; exact e)
    · exact .inr ⟨u, by rw [upd_ne (ne_of_none e hp)]; exact e⟩
  · rw [upd_ne (ne_of_none e hp)]; exact e
/-- a tracked object is written -/
theorem Step.set {a : Addr} {o u : HO} (ha : a ∈ ι) (e0 : H a = some u) (hu : ∀ xs, u ≠ .tup xs) (hf : ∀ ob x, u ≠ .frz ob x) : Step ι H ι (upd H a o) := by
  refine ⟨⟨[], by simp, fun _ h => nomatch h⟩, fun b q e nb => ?_, fun b e => ?_, fun b xs e => ?_, fun b ob x e => ?_⟩
  · rw [upd_ne (fun z => nb (by rw [z]; exact ha))]; exact e
  · by_cases hb : b = a
    · subst hb; rw [upd_same]; exact fun z => nomatch z
    · rw [upd_ne hb]; exact e
  · have hb : b ≠ a := fun z => by
      subst z
      rcases e with e | ⟨q, e⟩
      · rw [e0] at e; exact hu xs (Option.some.inj e)
      · rw [e0] at e; exact hf q _ (Option.some.inj e)
    rcases e with e | ⟨q, e⟩
    · exact .inl (by rw [upd_ne hb]; exact e)
    · exact .inr ⟨q, by rw [upd_ne hb]; exact e⟩
  · rw [upd_ne (fun z => by subst z; rw [e0] at e; exact hf ob x (Option.some.inj e))]; exact e
theorem Rel.get (r : Rel G h ι H) {n : Nat} {o : O} (e : h[n]? = some o) : ∃ a, ι[n]? = some a ∧ OR G H ι a o := by
  have hl : n < ι.length := by rw [r.len]; exact (List.getElem?_eq_some_iff.mp e).1
  exact ⟨ι[n], by simp [hl], r.obj n o _ e (by simp [hl])⟩
theorem Rel.sql (r : Rel G h ι H) {n : Nat} {a : Addr} {ws : List W} (e : h[n]? = some (.lst ws)) (ea : ι[n]? = some a) : ∃ vs, SqL G.K H a vs ∧ VRs G H ι ws vs := by
  obtain ⟨vs, h1, h2⟩ := r.obj n _ a e ea
  exact ⟨vs, .of h1, h2⟩
theorem OR.there {a : Addr} {o : O} (q : OR G H ι a o) : H a ≠ none := by
  cases o with
  | lst ws => obtain ⟨vs, e, _⟩ := q; rw [e]; exact fun z => nomatch z
  | dct kvs => obtain ⟨vs, e, _⟩ := q; rw [e]; exact fun z => nomatch z
  | ins c fs => obtain ⟨C, dx, vs, h0, e, h2⟩ := q; rw [e]; exact fun z => nomatch z
theorem Rel.there (r : Rel G h ι H) {a : Addr} (ha : a ∈ ι) : H a ≠ none := by
  obtain ⟨n, e⟩ := List.mem_iff_getElem?.mp ha
  have hl : n < h.length := by rw [← r.len]; exact (List.getElem?_eq_some_iff.mp e).1
  exact (r.obj n h[n] a (by simp [hl]) e).there
theorem Rel.fresh (r : Rel G h ι H) {p : Addr} (hp : H p = none) : p ∉ ι := fun hm => r.there hm hp
/-- objects apart from the small heap change -/
theorem Rel.step (r : Rel G h ι H) (s : Step ι H ι H') (hne : ∀ a ∈ ι, H' a = H a) : Rel G h ι H' :=
  ⟨r.len, fun n o a e ea => (r.obj n o a e ea).step s (hne a (List.mem_of_getElem? ea)), r.inj, r.pre⟩
/-- a new list comes into the small heap -/
theorem Rel.alloc (r : Rel G h ι H) {a : Addr} {o : O} (na : a ∉ ι) (q : OR G H (ι ++ [a]) a o) (s : Step ι H ι H) : Rel G (h ++ [o]) (ι ++ [a]) H := by
  have mono : ∀ {w v}, VR G H ι w v → VR G H (ι ++ [a]) w v := by
    intro w v
    have key : (∀ {w : W} {v : V}, VR G H ι w v → VR G H (ι ++ [a]) w v) := by
      intro w v hv
      refine VR.rec (motive_1 := fun w v _ => VR G H (ι ++ [a]) w v) (motive_2 := fun ws vs _ => VRs G H (ι ++ [a]) ws vs) .non (fun b => .bl b) (fun i => .int i) (fun x => .str x) (fun hs _ ih => .tup hs ih) (fun hs _ ih => .slst hs ih) (fun {n b} e => .ref (by rw [List.getElem?_append_left (List.getElem?_eq_some_iff.mp e).1]; exact e)) .nil (fun _ _ i1 i2 => .cons i1 i2) hv
    exact key
  have monos : ∀ {ws vs}, VRs G H ι ws vs → VRs G H (ι ++ [a]) ws vs := by
    intro ws vs hv
    exact VRs.rec (motive_1 := fun w v _ => VR G H (ι ++ [a]) w v) (motive_2 := fun ws vs _ => VRs G H (ι ++ [a]) ws vs) .non (fun b => .bl b) (fun i => .int i) (fun x => .str x) (fun hs _ ih => .tup hs ih) (fun hs _ ih => .slst hs ih) (fun {n b} e => .ref (by rw [List.getElem?_append_left (List.getElem?_eq_some_iff.mp e).1]; exact e)) .nil (fun _ _ i1 i2 => .cons i1 i2) hv
  have monof : ∀ {κ : Type} {ws : List (κ × W)} {vs : List (κ × V)}, FR G H ι ws vs → FR G H (ι ++ [a]) ws vs := by
    intro κ ws vs hv
    induction hv with
    | nil => exact .nil
    | cons r _ ih => exact .cons (mono r) ih
  have hl := r.len
  have low : ∀ {n : Nat} {b : Addr}, (ι ++ [a])[n]? = some b → (n < h.length ∧ ι[n]? = some b) ∨ (n = h.length ∧ b = a) := fun {n b} e => by
    by_cases hn : n < ι.length
    · rw [List.getElem?_append_left hn] at e
      exact .inl ⟨by omega, e⟩
    · rw [List.getElem?_append_right (by omega)] at e
      have hb := (List.getElem?_eq_some_iff.mp e).1
      simp at hb
      have e0 : n = h.length := by omega
      subst e0
      rw [hl] at e
      simp at e
      exact .inr ⟨rfl, e.symm⟩
  refine ⟨by simp [hl], fun n u b e eb => ?_, fun m n b em en => ?_, ?_⟩
  · rcases low eb with ⟨hn, eb2⟩ | ⟨hn, eb2⟩
    · rw [List.getElem?_append_left hn] at e
      have z := r.obj n u b e eb2
      cases u with
      | lst ws => obtain ⟨vs, h1, h2⟩ := z; exact ⟨vs, h1, monos h2⟩
      | dct kvs => obtain ⟨vs, h1, h2⟩ := z; exact ⟨vs, h1, monof h2⟩
      | ins c fs => obtain ⟨C, dx, vs, h0, h1, h2⟩ := z; exact ⟨C, dx, vs, h0, h1, monof h2⟩
    · subst hn; subst eb2
      rw [List.getElem?_append_right (Nat.le_refl _)] at e
      simp at e
      subst e
      exact q
  · rcases low em with ⟨hm, em2⟩ | ⟨hm, em2⟩
    · rcases low en with ⟨hn, en2⟩ | ⟨hn, en2⟩
      · exact r.inj m n b em2 en2
      · subst en2
        exact absurd (List.mem_of_getElem? em2) na
    · rcases low en with ⟨hn, en2⟩ | ⟨hn, en2⟩
      · subst em2
        exact absurd (List.mem_of_getElem? en2) na
      · omega
  · obtain ⟨q, hq⟩ := r.pre
    exact ⟨q ++ [a], by rw [hq, List.append_assoc]⟩
/-- an object of the small heap is written -/
theorem Rel.set (r : Rel G h ι H) {n : Nat} {a : Addr} {o o' : O} {u u' : HO} (e : h[n]? = some o) (ea : ι[n]? = some a) (e0 : H a = some u) (hu : ∀ xs, u ≠ .tup xs) (hf : ∀ ob x, u ≠ .frz ob x)
    (q : OR G (upd H a u') ι a o') : Rel G (h.set n o') ι (upd H a u') ∧ Step ι H ι (upd H a u') := by
  have s : Step ι H ι (upd H a u') := Step.set (List.mem_of_getElem? ea) e0 hu hf
  have hn := (List.getElem?_eq_some_iff.mp e).1
  refine ⟨⟨by rw [List.length_set]; exact r.len, fun m p b em eb => ?_, r.inj, r.pre⟩, s⟩
  by_cases hm : n = m
  · subst hm
    rw [List.getElem?_set_self hn] at em
    cases em
    rw [ea] at eb; cases eb
    exact q
  · rw [List.getElem?_set_ne hm] at em
    have hb : b ≠ a := fun z => by
      subst z
      exact hm (r.inj n m b ea eb)
    exact (r.obj m p b em eb).step s (upd_ne hb)
end

theorem Rel.new {G : Pg} {ι : List Addr} {H : Hp} {h : List O} {p : Addr} {o : HO} (r : Rel G h ι H) (hp : H p = none) : Rel G h ι (upd H p o) :=
  r.step (Step.new hp) fun a ha => upd_ne fun z => r.there ha (by rw [z]; exact hp)
theorem Step.back {ι ι' : List Addr} {H H' : Hp} (s : Step ι H ι' H') {p : Addr} (hp : H' p = none) : H p = none := by
  cases e : H p with
  | none => rfl
  | some o => exact absurd hp (s.there p (by rw [e]; exact fun z => nomatch z))

/-- an object apart from the small heap, new since then, is written -/
theorem Step.apart {ι ι' : List Addr} {H H' : Hp} (s : Step ι H ι' H') {D : Addr} {o u : HO} (h0 : H D = none) (e : H' D = some u) (hu : ∀ xs, u ≠ .tup xs) (hf : ∀ ob x, u ≠ .frz ob x) : Step ι H ι' (upd H' D o) ∧ Mon ι' H' ι' (upd H' D o) := by
  have t : ∀ a xs, Rd H' a (.tup xs) → Rd (upd H' D o) a (.tup xs) := fun a xs q => by
    have ha : a ≠ D := fun z => by
      subst z
      rcases q with q | ⟨ob, q⟩
      · rw [e] at q; exact hu xs (Option.some.inj q)
      · rw [e] at q; exact hf ob _ (Option.some.inj q)
    rcases q with q | ⟨ob, q⟩
    · exact .inl (by rw [upd_ne ha]; exact q)
    · exact .inr ⟨ob, by rw [upd_ne ha]; exact q⟩
  have f : ∀ a ob x, H' a = some (.frz ob x) → upd H' D o a = some (.frz ob x) := fun a ob x q => by
    rw [upd_ne (fun z => by subst z; rw [e] at q; exact hf ob x (Option.some.inj q))]; exact q
  refine ⟨⟨s.ext, fun a q e1 na => ?_, fun a e1 => ?_, fun a xs q => t a xs (s.tups a xs q), fun a ob x q => f a ob x (s.frzs a ob x q)⟩, ⟨fun _ _ q => q, t, f⟩⟩
  · rw [upd_ne (ne_of_none e1 h0)]; exact s.keep a q e1 na
  · by_cases ha : a = D
    · subst ha; rw [upd_same]; exact fun z => nomatch z
    · rw [upd_ne ha]; exact s.there a e1
theorem Rel.mon {G : Pg} {ι : List Addr} {H H' : Hp} {h : List O} (r : Rel G h ι H) (m : Mon ι H ι H') (hne : ∀ a ∈ ι, H' a = H a) : Rel G h ι H' := by
  have fm : ∀ {κ : Type} {ws : List (κ × W)} {vs : List (κ × V)}, FR G H ι ws vs → FR G H' ι ws vs := by
    intro κ ws vs hv
    induction hv with
    | nil => exact .nil
    | cons r _ ih => exact .cons (r.mon m) ih
  refine ⟨r.len, fun n o a e ea => ?_, r.inj, r.pre⟩
  have q := r.obj n o a e ea
  have z := hne a (List.mem_of_getElem? ea)
  cases o with
  | lst ws => obtain ⟨vs, h1, h2⟩ := q; exact ⟨vs, z.trans h1, h2.mon m⟩
  | dct kvs => obtain ⟨vs, h1, h2⟩ := q; exact ⟨vs, z.trans h1, fm h2⟩
  | ins c fs => obtain ⟨C, dx, vs, h0, h1, h2⟩ := q; exact ⟨C, dx, vs, h0, z.trans h1, fm h2⟩

/-! ### slots -/
structure LR (G : Pg) (H : Hp) (ι : List Addr) (ℓ : Lo) (σ : L2.St) : Prop where
  len : ℓ.length = σ.length
  at_ : ∀ i w, getL ℓ i = some w → ∃ v, σ[i]? = some (some v) ∧ VR G H ι w v
section
variable {G : Pg} {ι ι' : List Addr} {H H' : Hp} {ℓ : Lo} {σ : L2.St}
theorem LR.mono (s : Step ι H ι' H') (r : LR G H ι ℓ σ) : LR G H' ι' ℓ σ :=
  ⟨r.len, fun i w e => by obtain ⟨v, h1, h2⟩ := r.at_ i w e; exact ⟨v, h1, h2.mono s⟩⟩
theorem getL_set_self {i : Nat} {w u : W} (h : getL (ℓ.set i (some w)) i = some u) : u = w ∧ i < ℓ.length := by
  unfold getL at h
  by_cases hi : i < ℓ.length
  · rw [List.getElem?_set_self hi] at h
    simp at h
    exact ⟨h.symm, hi⟩
  · rw [List.getElem?_eq_none (by simp; omega)] at h
    simp at h
theorem getL_set_ne {i j : Nat} {o : Option W} (h : i ≠ j) : getL (ℓ.set i o) j = getL ℓ j := by
  unfold getL
  rw [List.getElem?_set_ne h]
theorem LR.set (r : LR G H ι ℓ σ) {i : Nat} {w : W} {v : V} (q : VR G H ι w v) : LR G H ι (ℓ.set i (some w)) (σ.set i (some v)) := by
  refine ⟨by rw [List.length_set, List.length_set]; exact r.len, fun j u e => ?_⟩
  by_cases hj : i = j
  · subst hj
    obtain ⟨rfl, hi⟩ := getL_set_self e
    exact ⟨v, by rw [List.getElem?_set_self (by rw [← r.len]; exact hi)], q⟩
  · rw [getL_set_ne hj] at e
    rw [List.getElem?_set_ne hj]
    exact r.at_ j u e
theorem LR.clear (r : LR G H ι ℓ σ) (i : Nat) : LR G H ι (ℓ.set i none) (σ.set i none) := by
  refine ⟨by rw [List.length_set, List.length_set]; exact r.len, fun j u e => ?_⟩
  by_cases hj : i = j
  · subst hj
    unfold getL at e
    by_cases hi : i < ℓ.length
    · rw [List.getElem?_set_self hi] at e; cases e
    · rw [List.getElem?_eq_none (by simp; omega)] at e; cases e
  · rw [getL_set_ne hj] at e
    rw [List.getElem?_set_ne hj]
    exact r.at_ j u e
theorem LR.wipe (r : LR G H ι ℓ σ) : ∀ vs : List Nat, LR G H ι (wipeL ℓ vs) (wipe σ vs)
  | [] => r
  | v :: vs => (LR.wipe r vs).clear v
end

/-! ### ends of a run -/
def XR (G : Pg) (H : Hp) (ι : List Addr) (x : Exn) (cls : Value) (d : Option Addr) : Prop :=
  ∃ C, G.cls x.cls = some C ∧ cls = .ref C ∧ ((x.fs = [] ∧ d = none) ∨ ∃ dd vs, d = some dd ∧ H dd = some (.xd vs) ∧ FR G H ι x.fs vs ∧ dd ∉ ι)
def Post {α : Type} (G : Pg) (Wx : WX) (σ : L2.St) (ι : List Addr) (H : Hp) (r : R α) (k : α → List O → List Addr → Hp → Prop) : Prop := match r with
  | .ok a h' => ∀ ι' H', Step ι H ι' H' → Rel G h' ι' H' → k a h' ι' H'
  | .exc x h' => ∀ ι' H' cls d, Step ι H ι' H' → Rel G h' ι' H' → XR G H' ι' x cls d → Wx cls d σ H'
  | .stuck => False
section
variable {α β : Type} {G : Pg} {Wx : WX} {σ : L2.St} {ι ι1 : List Addr} {H H1 : Hp}
theorem Post.imp {r : R α} {k k' : α → List O → List Addr → Hp → Prop} (p : Post G Wx σ ι H r k) (f : ∀ a h' ι' H', Step ι H ι' H' → Rel G h' ι' H' → k a h' ι' H' → k' a h' ι' H') : Post G Wx σ ι H r k' := by
  cases r with
  | ok a h' => exact fun ι' H' s q => f a h' ι' H' s q (p ι' H' s q)
  | exc x h' => exact p
  | stuck => exact p
theorem Post.later {r : R α} {k : α → List O → List Addr → Hp → Prop} (p : Post G Wx σ ι H r k) (s : Step ι H ι1 H1) : Post G Wx σ ι1 H1 r k := by
  cases r with
  | ok a h' => exact fun ι' H' t q => p ι' H' (s.trans t) q
  | exc x h' => exact fun ι' H' cls d t q => p ι' H' cls d (s.trans t) q
  | stuck => exact p
theorem Post.bind {r : R α} {f : α → List O → R β} {k : β → List O → List Addr → Hp → Prop} (p : Post G Wx σ ι H (r.bind f) k) : Post G Wx σ ι H r (fun a h1 ι1 H1 => Post G Wx σ ι1 H1 (f a h1) k) := by
  cases r with
  | ok a h' =>
    intro ι' H' s q
    have p' : Post G Wx σ ι H (f a h') k := p
    exact p'.later s
  | exc x h' => exact p
  | stuck => exact p
theorem Post.bind0 {r : R α} {f : α → List O → R β} {k : β → List O → List Addr → Hp → Prop} (p : Post G Wx σ ι H (r.bind f) k) : Post G Wx σ ι H r (fun a h1 _ _ => Post G Wx σ ι H (f a h1) k) := by
  cases r with
  | ok a h' => exact fun _ _ _ _ => p
  | exc x h' => exact p
  | stuck => exact p
theorem Post.ok {a : α} {h : List O} {k : α → List O → List Addr → Hp → Prop} (p : Post G Wx σ ι H (R.ok a h) k) (q : Rel G h ι H) : k a h ι H := p ι H .refl q
theorem Post.chk {b : Bool} {r : R α} {k : α → List O → List Addr → Hp → Prop} (p : Post G Wx σ ι H (chk b r) k) : b = true ∧ Post G Wx σ ι H r k := by
  cases b with
  | true => exact ⟨rfl, p⟩
  | false => exact False.elim p
end

/-! ### readings by the interpreter -/
/-- a value -/
def tV (G : Pg) (Wx : WX) (m : Lo → List O → R W) : TE := fun σ H Q => ∃ ι h ℓ, Rel G h ι H ∧ LR G H ι ℓ σ ∧ Post G Wx σ ι H (m ℓ h) fun w _ ι' H' => ∀ v, VR G H' ι' w v → Q v H'
/-- a new list, or the very one that stands in the small heap -/
def tL (G : Pg) (Wx : WX) (m : Lo → List O → R (List W)) : TE := fun σ H Q => ∃ ι h ℓ, Rel G h ι H ∧ LR G H ι ℓ σ ∧
  Post G Wx σ ι H (m ℓ h) fun ws _ ι' H' => ∀ D vs, H D = none → D ∉ ι' → H' D = some (.lst vs) → VRs G H' ι' ws vs → Q (.ref D) H'
/-- a truth -/
def tT (G : Pg) (Wx : WX) (m : Lo → List O → R Bool) : TT := fun σ H Q => ∃ ι h ℓ, Rel G h ι H ∧ LR G H ι ℓ σ ∧ Post G Wx σ ι H (m ℓ h) fun b _ _ H' => Q b H'
/-- several values -/
def tA (G : Pg) (Wx : WX) (m : Lo → List O → R (List W)) : TA := fun σ H Q => ∃ ι h ℓ, Rel G h ι H ∧ LR G H ι ℓ σ ∧ Post G Wx σ ι H (m ℓ h) fun ws _ ι' H' => ∀ vs, VRs G H' ι' ws vs → Q vs H'
theorem PE.imp {X : Cx} {e : Expr} {t t' : TE} (h : PE X e t) (f : ∀ σ H Q, t' σ H Q → t σ H Q) : PE X e t' := ⟨fun pins s σ H Q I q => h.run pins s σ H Q I (f σ H Q q)⟩
theorem PT.imp {X : Cx} {e : Expr} {t t' : TT} (h : PT X e t) (f : ∀ σ H Q, t' σ H Q → t σ H Q) : PT X e t' := ⟨fun pins s σ H Q I q => h.run pins s σ H Q I (f σ H Q q)⟩
theorem PW.imp {X : Cx} {e : Expr} {t t' : TT} (h : PW X e t) (f : ∀ σ H Q, t' σ H Q → t σ H Q) : PW X e t' := ⟨fun wh pins s σ H Q I q => h.run wh pins s σ H Q I (f σ H Q q)⟩
theorem PA.imp {X : Cx} {es : List Expr} {t t' : TA} (h : PA X es t) (f : ∀ σ H Q, t' σ H Q → t σ H Q) : PA X es t' := ⟨fun pos pins s σ H Q I q => h.run pos pins s σ H Q I (f σ H Q q)⟩
theorem PS.imp {X : Cx} {e : Stmt} {t t' : TS} (h : PS X e t) (f : ∀ D σ H, t' D σ H → t D σ H) : PS X e t' := ⟨fun pins s σ H D I q => h.run pins s σ H D I (f D σ H q)⟩
theorem PSs.imp {X : Cx} {e : List Stmt} {t t' : TS} (h : PSs X e t) (f : ∀ D σ H, t' D σ H → t D σ H) : PSs X e t' := ⟨fun pins s σ H D I q => h.run pins s σ H D I (f D σ H q)⟩
theorem PI.imp {X : Cx} {tg e : Expr} {t t' : TI} (h : PI X tg e t) (f : ∀ σ H Q, t' σ H Q → t σ H Q) : PI X tg e t' := ⟨fun pins s σ H Q I q => h.run pins s σ H Q I (f σ H Q q)⟩
theorem PG.imp {X : Cx} {tg : Expr} {t t' : TG} (h : PG X tg t) (f : ∀ v σ H Q, t' v σ H Q → t v σ H Q) : PG X tg t' := ⟨fun pins s σ H v u Q I r q => h.run pins s σ H v u Q I r (f v σ H Q q)⟩
theorem PGs.imp {X : Cx} {tg : List Expr} {t t' : TGs} (h : PGs X tg t) (f : ∀ v σ H Q, t' v σ H Q → t v σ H Q) : PGs X tg t' := ⟨fun pins s σ H v u Q I r q => h.run pins s σ H v u Q I r (f v σ H Q q)⟩
theorem OpR.imp {X : Cx} {f : Value → Value → Sem Value} {r r' : R2} (h : OpR X f r) (i : ∀ x y H Q, r' x y H Q → r x y H Q) : OpR X f r' := fun pins s σ H x y v u Q I rx ry q => h pins s σ H x y v u Q I rx ry (i x y H Q q)
theorem OpR.or {X : Cx} {f : Value → Value → Sem Value} {r r' : R2} (h : OpR X f r) (h' : OpR X f r') : OpR X f (fun x y H Q => r x y H Q ∨ r' x y H Q) := fun pins s σ H x y v u Q I rx ry q => by
  rcases q with q | q
  · exact h pins s σ H x y v u Q I rx ry q
  · exact h' pins s σ H x y v u Q I rx ry q
end MP
set_option maxRecDepth 100000
set_option maxHeartbeats 4000000
namespace MP
open PySem PySem.Spec PyProof.Rows L2
section
variable {X : Cx} {G : Pg} {Wx : WX} {σ : L2.St} {ι : List Addr} {H : Hp} {h : List O} {Q : VK}

/-- what is wanted of a value that the small run gives -/
abbrev Wants (Q : VK) (G : Pg) : W → List O → List Addr → Hp → Prop := fun w _ ι' H' => ∀ v, VR G H' ι' w v → Q v H'
theorem Wants.int {i : Int} (p : Post G Wx σ ι H (.ok (.int i) h) (Wants Q G)) (r : Rel G h ι H) : Q (.int i) H := p ι H .refl r _ (.int i)
theorem Wants.bl {i : Bool} (p : Post G Wx σ ι H (.ok (.bl i) h) (Wants Q G)) (r : Rel G h ι H) : Q (.bl i) H := p ι H .refl r _ (.bl i)
theorem Wants.str {i : Str} (p : Post G Wx σ ι H (.ok (.str i) h) (Wants Q G)) (r : Rel G h ι H) : Q (.str i) H := p ι H .refl r _ (.str i)
theorem Wants.non (p : Post G Wx σ ι H (.ok .non h) (Wants Q G)) (r : Rel G h ι H) : Q .non H := p ι H .refl r _ .non
theorem oB_ok {o : Option Bool} (p : Post G Wx σ ι H (oB o h) (Wants Q G)) (r : Rel G h ι H) : ∃ b, o = some b ∧ Q (.bl b) H := by
  cases o with
  | none => exact False.elim p
  | some b => exact ⟨b, rfl, Wants.bl p r⟩

theorem mon_app {ι : List Addr} {H : Hp} {D : Addr} : Mon ι H (ι ++ [D]) H := ⟨fun n b e => by rw [List.getElem?_append_left (List.getElem?_eq_some_iff.mp e).1]; exact e, fun _ _ q => q, fun _ _ _ q => q⟩
theorem post_alloc {σ : L2.St} {ι : List Addr} {H H' : Hp} {h : List O} {o : O} {Q : VK} {D : Addr} (p : Post G Wx σ ι H (alloc o h) (Wants Q G)) (r : Rel G h ι H') (hD : H D = none) (nD : D ∉ ι) (s : Step ι H ι H') (q : OR G H' (ι ++ [D]) D o) : Q (.ref D) H' := by
  have s2 : Step ι H (ι ++ [D]) H' := ⟨⟨[D], rfl, fun a ha => by rw [List.mem_singleton.mp ha]; exact hD⟩, s.keep, s.there, s.tups, s.frzs⟩
  have q2 : Rel G (h ++ [o]) (ι ++ [D]) H' := r.alloc nD q .refl
  have p2 : Post G Wx σ ι H (.ok (.ref h.length) (h ++ [o])) (Wants Q G) := p
  refine p2 _ H' s2 q2 _ (.ref ?_)
  rw [List.getElem?_append_right (by rw [r.len]; exact Nat.le_refl _), r.len, Nat.sub_self]
  rfl
/-! ### + - * // % ** -/
def rNo : R2 := fun _ _ _ _ => False
theorem op_no {f : Value → Value → Sem Value} : OpR X f rNo := fun _ _ _ _ _ _ _ _ _ _ _ _ h => h.elim
def rBin (K : PySem.W.Frag) : Operator → R2
  | .Add => fun x y H Q => rCat x y H Q ∨ rI0 (fun i j => .int (i + j)) x y H Q ∨ (∃ i j, x = .str i ∧ y = .str j ∧ i.length + j.length ≤ sizeLine ∧ Q (.str (i ++ j)) H) ∨ rCatA K x y H Q
  | .Sub => rI0 fun i j => .int (i - j)
  | .Mult => fun x y H Q => rI CMul (fun i j => .int (i * j)) x y H Q ∨ rI CMulW (fun i j => .int (i * j)) x y H Q
  | .FloorDiv => fun x y H Q => rI CDivN (fun i j => .int (i.fdiv j)) x y H Q ∨ rI CDivW (fun i j => .int (i / j)) x y H Q
  | .Mod => rI (fun _ j => j ≠ 0) fun i j => .int (i.fmod j)
  | .Pow => rI CPow fun i j => .int (i ^ j.toNat)
  | _ => rNo
theorem op_bin : ∀ op : Operator, OpR X (binaryOp op) (rBin X.K op)
  | .Add => op_cat.or (op_add.or (op_add_str.or op_catA))
  | .Sub => op_sub
  | .Mult => op_mul.or op_mulW
  | .FloorDiv => op_fdivN.or op_fdivW
  | .Mod => op_modN
  | .Pow => op_pow
  | .MatMult => op_no
  | .Div => op_no
  | .LShift => op_no
  | .RShift => op_no
  | .BitOr => op_no
  | .BitXor => op_no
  | .BitAnd => op_no
theorem bin_sound {op : Operator} {x y : W} {u v : V} (hx : VR G H ι x u) (hy : VR G H ι y v) (r : Rel G h ι H) (p : Post G Wx σ ι H (binW op x y h) (Wants Q G)) : rBin G.K op u v H Q := by
  unfold binW at p
  split at p
  · cases hx; cases hy
    exact .inr (.inl ⟨_, _, rfl, rfl, Wants.int p r⟩)
  · obtain ⟨c, p⟩ := p.chk
    cases hx with
    | tup hs hr =>
      cases hy with
      | tup hs2 hr2 =>
        have c := of_decide_eq_true c
        have l1 := hr.length
        have l2 := hr2.length
        refine .inr (.inr (.inr ⟨_, _, _, _, rfl, rfl, hs, hs2, by rw [← l1, ← l2]; exact c, fun e => ?_, fun _ e => ?_, fun _ _ q hq => ?_⟩))
        · subst e
          cases hr
          exact p.ok r _ (.tup hs2 hr2)
        · subst e
          cases hr2
          exact p.ok r _ (by rw [List.append_nil]; exact .tup hs hr)
        · exact p ι _ (Step.new hq) (r.new hq) _ (.tup (.of upd_same) ((hr.append hr2).mono (Step.new hq)))
  · split at p
    · rename_i xs ys e1 e2
      obtain ⟨c, p⟩ := p.chk
      have c := of_decide_eq_true c
      cases hx with
      | ref ha =>
        cases hy with
        | ref hb =>
          obtain ⟨vs, a1, a2⟩ := r.obj _ _ _ e1 ha
          obtain ⟨us, b1, b2⟩ := r.obj _ _ _ e2 hb
          refine .inl ⟨_, _, vs, us, rfl, rfl, a1, b1, by rw [← a2.length, ← b2.length]; exact c, fun t ht => ?_⟩
          have st : Step ι H ι (upd H t (.lst (vs ++ us))) := Step.new ht
          refine post_alloc p (r.new ht) ht (r.fresh ht) st ⟨_, upd_same, VRs.mon mon_app ((a2.append b2).mono st)⟩
    · exact False.elim p
  · cases hx; cases hy
    obtain ⟨c, p⟩ := p.chk
    exact .inr (.inr (.inl ⟨_, _, rfl, rfl, of_decide_eq_true c, Wants.str p r⟩))
  · cases hx; cases hy
    exact ⟨_, _, rfl, rfl, Wants.int p r⟩
  · cases hx; cases hy
    obtain ⟨c, p⟩ := p.chk
    have q := Wants.int p r
    unfold mulOk at c
    simp only [Bool.or_eq_true, decide_eq_true_eq] at c
    rcases c with c | c | c
    · exact .inl ⟨_, _, rfl, rfl, .inl c, q⟩
    · exact .inl ⟨_, _, rfl, rfl, .inr c, q⟩
    · exact .inr ⟨_, _, rfl, rfl, c, q⟩
  · cases hx; cases hy
    obtain ⟨c, p⟩ := p.chk
    have q := Wants.int p r
    unfold divOk at c
    simp only [Bool.or_eq_true, decide_eq_true_eq] at c
    rcases c with c | c
    · exact .inl ⟨_, _, rfl, rfl, c, q⟩
    · rw [Int.fdiv_eq_ediv_of_nonneg _ (by omega)] at q
      exact .inr ⟨_, _, rfl, rfl, c, q⟩
  · cases hx; cases hy
    obtain ⟨c, p⟩ := p.chk
    exact ⟨_, _, rfl, rfl, of_decide_eq_true c, Wants.int p r⟩
  · cases hx; cases hy
    obtain ⟨c, p⟩ := p.chk
    unfold powOk at c
    have c := of_decide_eq_true c
    exact ⟨_, _, rfl, rfl, c, Wants.int p r⟩
  · exact False.elim p

/-! ### data -/
theorem dp_of (r : Rel G h ι H) : ∀ (n : Nat) {w : W} {v : V} {d : PyData}, VR G H ι w v → toD h n w = some d → Dp G.K H v d := by
  intro n
  induction n with
  | zero =>
    intro w v d hv e
    cases hv <;> simp [toD] at e
    · subst e; exact .non
    · subst e; exact .bl _
    · subst e; exact .int _
    · subst e; exact .str _
  | succ n ih =>
    intro w v d hv e
    have all : ∀ {ws : List W} {vs : List V} {ds : List PyData}, VRs G H ι ws vs → ws.mapM (toD h n) = some ds → DpAll G.K H vs ds := by
      intro ws
      induction ws with
      | nil =>
        intro vs ds hv e
        cases hv
        simp at e
        subst e
        exact .nil
      | cons w ws ih2 =>
        intro vs ds hv e
        cases hv with
        | cons h1 h2 =>
          simp only [List.mapM_cons, Option.pure_def, Option.bind_eq_bind, Option.bind_eq_some_iff] at e
          obtain ⟨d, e1, ds', e2, e3⟩ := e
          cases e3
          exact .cons (ih h1 e1) (ih2 h2 e2)
    cases hv with
    | non => simp [toD] at e; subst e; exact .non
    | bl b => simp [toD] at e; subst e; exact .bl _
    | int i => simp [toD] at e; subst e; exact .int _
    | str x => simp [toD] at e; subst e; exact .str _
    | tup hs hr =>
      rw [toD, Option.map_eq_some_iff] at e
      obtain ⟨ds, e1, rfl⟩ := e
      exact .tup hs (all hr e1)
    | slst hs hr =>
      rw [toD, Option.map_eq_some_iff] at e
      obtain ⟨ds, e1, rfl⟩ := e
      exact .lst hs.sql (all hr e1)
    | ref ha =>
      rw [toD] at e
      split at e
      · rename_i ws eo
        rw [Option.map_eq_some_iff] at e
        obtain ⟨ds, e1, rfl⟩ := e
        obtain ⟨vs, hs, hr⟩ := r.sql eo ha
        exact .lst hs (all hr e1)
      · cases e
theorem dp_all (r : Rel G h ι H) (n : Nat) : ∀ {ws : List W} {vs : List V} {ds : List PyData}, VRs G H ι ws vs → ws.mapM (toD h n) = some ds → DpAll G.K H vs ds := by
  intro ws
  induction ws with
  | nil =>
    intro vs ds hv e
    cases hv
    simp at e
    subst e
    exact .nil
  | cons w ws ih2 =>
    intro vs ds hv e
    cases hv with
    | cons h1 h2 =>
      simp only [List.mapM_cons, Option.pure_def, Option.bind_eq_bind, Option.bind_eq_some_iff] at e
      obtain ⟨d, e1, ds', e2, e3⟩ := e
      cases e3
      exact .cons (dp_of r n h1 e1) (ih2 h2 e2)

/-! ### operands -/
/-- an operand's image: a value's, or that of a new list -/
def OpdR (G : Pg) (H : Hp) (ι : List Addr) : Opd → V → Prop
  | .inl ws, v => ∃ D vs, v = .ref D ∧ H D = some (.lst vs) ∧ D ∉ ι ∧ VRs G H ι ws vs
  | .inr w, v => VR G H ι w v
theorem OpdR.mono {ι' : List Addr} {H' : Hp} {o : Opd} {v : V} (s : Step ι H ι' H') (q : OpdR G H ι o v) : OpdR G H' ι' o v := by
  cases o with
  | inl ws =>
    obtain ⟨D, vs, rfl, e, n, r⟩ := q
    refine ⟨D, vs, rfl, s.keep D _ e n, fun hm => ?_, r.mono s⟩
    obtain ⟨t, et, ht⟩ := s.ext
    rw [et] at hm
    rcases List.mem_append.mp hm with hm | hm
    · exact n hm
    · rw [ht D hm] at e; cases e
  | inr w => exact VR.mono s q
theorem dp_opd (r : Rel G h ι H) {o : Opd} {v : V} {d : PyData} (q : OpdR G H ι o v) (e : datO h o = some d) : Dp G.K H v d := by
  cases o with
  | inl ws =>
    obtain ⟨D, vs, rfl, eD, n, hr⟩ := q
    unfold datO at e
    rw [Option.map_eq_some_iff] at e
    obtain ⟨ds, e1, rfl⟩ := e
    exact .lst (.of eD) (dp_all r _ hr e1)
  | inr w => exact dp_of r _ q e

/-! ### comparisons -/
def rCmp (K : PySem.W.Frag) : CmpOp → R2
  | .Eq => fun x y H Q => rEq x y H Q ∨ rEqD K x y H Q
  | .NotEq => fun x y H Q => rNe x y H Q ∨ rNeD K x y H Q
  | .Lt => rI0 fun i j => .bl (decide (i < j))
  | .LtE => rI0 fun i j => .bl (decide (i ≤ j))
  | .Gt => rI0 fun i j => .bl (decide (j < i))
  | .GtE => rI0 fun i j => .bl (decide (j ≤ i))
  | .Is => fun x y H Q => y = .non ∧ Q (.bl (decide (x = .non))) H
  | .IsNot => fun x y H Q => y = .non ∧ Q (.bl (!decide (x = .non))) H
  | .In => fun x y H Q => (∃ i j, x = .str i ∧ y = .str j ∧ Q (.bl (!(Builtin.Str.occurrences j i 0 j.length 1).isEmpty)) H) ∨ rIn K false x y H Q
  | .NotIn => fun x y H Q => (∃ i j, x = .str i ∧ y = .str j ∧ Q (.bl (!(!(Builtin.Str.occurrences j i 0 j.length 1).isEmpty))) H) ∨ rIn K true x y H Q
theorem op_cmp (hu : X.A.units + 64 < cLine) (hK : X.K = G.K) : ∀ op : CmpOp, OpR X (compareOp op) (rCmp G.K op) := by
  rw [← hK]
  intro op
  cases op with
  | Eq => exact op_eq.or (op_eqD hu)
  | NotEq => exact op_ne.or (op_neD hu)
  | Lt => exact op_lt
  | LtE => exact op_le
  | Gt => exact op_gt
  | GtE => exact op_ge
  | Is => exact op_isN
  | IsNot => exact op_notN
  | In => exact op_in_str.or op_in_seq
  | NotIn => exact op_notin_str.or op_notIn_seq
theorem scal_eq {x y : W} {u v : V} (hx : VR G H ι x u) (hy : VR G H ι y v) (c : scalW x y = true) : scal u v = true ∧ decide (u = v) = eqS x y := by
  cases hx <;> cases hy <;> first
    | exact absurd c Bool.false_ne_true
    | (refine ⟨rfl, ?_⟩; simp [eqS]; done)
    | (refine ⟨rfl, ?_⟩; simp only [eqS, V.int.injEq, V.bl.injEq, V.str.injEq]; first | rfl | simp)
theorem flat_of {x : W} {u : V} (hx : VR G H ι x u) (c : flatW x = true) : flatV u = true := by
  cases hx <;> first | rfl | exact absurd c Bool.false_ne_true
theorem eqF_of {x y : W} {u v : V} (hx : VR G H ι x u) (hy : VR G H ι y v) (c : flatW x = true) (d : flatW y = true) : eqV u v = eqF x y := by
  cases hx <;> cases hy <;> first | rfl | exact absurd c Bool.false_ne_true | exact absurd d Bool.false_ne_true
theorem flats_of : ∀ {ws : List W} {vs : List V}, VRs G H ι ws vs → ws.all flatW = true → vs.all flatV = true
  | _, _, .nil, _ => rfl
  | _, _, .cons h1 h2, c => by
    rw [List.all_cons, Bool.and_eq_true] at c ⊢
    exact ⟨flat_of h1 c.1, flats_of h2 c.2⟩
theorem inF_of {x : W} {u : V} (hx : VR G H ι x u) (cx : flatW x = true) : ∀ {ws : List W} {vs : List V}, VRs G H ι ws vs → ws.all flatW = true → inV u vs = ws.any fun z => eqF z x
  | _, _, .nil, _ => rfl
  | _, _, .cons h1 h2, c => by
    rw [List.all_cons, Bool.and_eq_true] at c
    unfold inV
    rw [List.any_cons, List.any_cons, eqF_of h1 hx c.1 cx]
    congr 1
    exact inF_of hx cx h2 c.2
/-- a list or a tuple -/
theorem seq_of (r : Rel G h ι H) {y : W} {v : V} {ws : List W} (hy : VR G H ι y v) (e : seqW h y = some ws) : ∃ a vs, v = .ref a ∧ (SqL G.K H a vs ∨ SqT G.K H a vs) ∧ VRs G H ι ws vs := by
  unfold seqW at e
  cases hy with
  | tup hs hr => cases e; exact ⟨_, _, rfl, .inr hs, hr⟩
  | slst hs hr => cases e; exact ⟨_, _, rfl, .inl hs.sql, hr⟩
  | ref ha =>
    dsimp only at e
    split at e
    · rename_i ws' eo
      cases e
      obtain ⟨vs, h1, h2⟩ := r.sql eo ha
      exact ⟨_, vs, rfl, .inl h1, h2⟩
    · cases e
  | _ => cases e
theorem in_opd (r : Rel G h ι H) {a b : Opd} {u v : V} {k : Bool} (ha : OpdR G H ι a u) (hb : OpdR G H ι b v) (e : inO h a b = some k) (neg : Bool) (q : Q (.bl (if neg then !k else k)) H) :
    (∃ i j, u = .str i ∧ v = .str j ∧ Q (.bl (if neg then !(!(Builtin.Str.occurrences j i 0 j.length 1).isEmpty) else !(Builtin.Str.occurrences j i 0 j.length 1).isEmpty)) H) ∨ rIn G.K neg u v H Q := by
  cases a with
  | inl ws => cases b <;> cases e
  | inr x =>
    have hx : VR G H ι x u := ha
    cases b with
    | inl ws =>
      obtain ⟨D, vs, rfl, eD, n, hr⟩ := hb
      unfold inO at e
      dsimp only at e
      split at e
      · rename_i c
        cases e
        rw [Bool.and_eq_true] at c
        refine .inr ⟨D, vs, rfl, .inl (.of eD), flat_of hx c.1, flats_of hr c.2, ?_⟩
        rw [inF_of hx c.1 hr c.2]
        exact q
      · cases e
    | inr y =>
      have hy : VR G H ι y v := hb
      have e' : inW h x y = some k := e
      unfold inW at e'
      split at e'
      · cases e'
        cases hx; cases hy
        exact .inl ⟨_, _, rfl, rfl, q⟩
      · split at e'
        · rename_i ws es
          split at e'
          · rename_i c
            cases e'
            rw [Bool.and_eq_true] at c
            obtain ⟨a, vs, rfl, hs, hr⟩ := seq_of r hy es
            refine .inr ⟨a, vs, rfl, hs, flat_of hx c.1, flats_of hr c.2, ?_⟩
            rw [inF_of hx c.1 hr c.2]
            exact q
          · cases e'
        · cases e'
theorem eq_opd (r : Rel G h ι H) {a b : Opd} {u v : V} {k : Bool} (ha : OpdR G H ι a u) (hb : OpdR G H ι b v) (e : eqO h a b = some k) :
    (scal u v = true ∧ decide (u = v) = k) ∨ ∃ d e, Dp G.K H u d ∧ Dp G.K H v e ∧ SeqAt.shaped d = true ∧ SeqAt.shaped e = true ∧ PyData.eqv d e = k := by
  have deep : (match datO h a, datO h b with
    | some d, some e => if (SeqAt.shaped d && SeqAt.shaped e) = true then some (PyData.eqv d e) else none
    | _, _ => none) = some k → ∃ d e, Dp G.K H u d ∧ Dp G.K H v e ∧ SeqAt.shaped d = true ∧ SeqAt.shaped e = true ∧ PyData.eqv d e = k := by
    intro e
    split at e
    · rename_i d1 d2 e1 e2
      split at e
      · rename_i c
        cases e
        rw [Bool.and_eq_true] at c
        exact ⟨d1, d2, dp_opd r ha e1, dp_opd r hb e2, c.1, c.2, rfl⟩
      · cases e
    · cases e
  cases a with
  | inl ws => exact .inr (deep e)
  | inr x =>
    cases b with
    | inl ws => exact .inr (deep e)
    | inr y =>
      have e' : eqW h x y = some k := e
      unfold eqW at e'
      split at e'
      · rename_i c
        cases e'
        exact .inl (scal_eq ha hb c)
      · exact .inr (deep e')
theorem cmp_sound {op : CmpOp} {a b : Opd} {u v : V} (ha : OpdR G H ι a u) (hb : OpdR G H ι b v) (r : Rel G h ι H) (p : Post G Wx σ ι H (cmpO op a b h) (Wants Q G)) : rCmp G.K op u v H Q := by
  have inrs : ∀ {op : CmpOp}, Post G Wx σ ι H (match a, b with
    | .inr x, .inr y => cmpW op x y h
    | _, _ => (.stuck : R W)) (Wants Q G) → ∃ x y, a = .inr x ∧ b = .inr y ∧ Post G Wx σ ι H (cmpW op x y h) (Wants Q G) := by
    intro op p
    cases a with
    | inl _ => exact False.elim p
    | inr x =>
      cases b with
      | inl _ => exact False.elim p
      | inr y => exact ⟨x, y, rfl, rfl, p⟩
  cases op with
  | Eq =>
    obtain ⟨k, e, q⟩ := oB_ok (show Post G Wx σ ι H (oB (eqO h a b) h) (Wants Q G) from p) r
    rcases eq_opd r ha hb e with ⟨c, e2⟩ | ⟨d, e, h1, h2, h3, h4, h5⟩
    · exact .inl ⟨c, by rw [e2]; exact q⟩
    · exact .inr ⟨d, e, h1, h2, h3, h4, by rw [h5]; exact q⟩
  | NotEq =>
    obtain ⟨k, e, q⟩ := oB_ok (show Post G Wx σ ι H (oB ((eqO h a b).map (!·)) h) (Wants Q G) from p) r
    rw [Option.map_eq_some_iff] at e
    obtain ⟨k, e, rfl⟩ := e
    rcases eq_opd r ha hb e with ⟨c, e2⟩ | ⟨d, e, h1, h2, h3, h4, h5⟩
    · exact .inl ⟨c, by rw [e2]; exact q⟩
    · exact .inr ⟨d, e, h1, h2, h3, h4, by rw [h5]; exact q⟩
  | In =>
    obtain ⟨k, e, q⟩ := oB_ok (show Post G Wx σ ι H (oB (inO h a b) h) (Wants Q G) from p) r
    exact in_opd r ha hb e false q
  | NotIn =>
    obtain ⟨k, e, q⟩ := oB_ok (show Post G Wx σ ι H (oB ((inO h a b).map (!·)) h) (Wants Q G) from p) r
    rw [Option.map_eq_some_iff] at e
    obtain ⟨k, e, rfl⟩ := e
    exact in_opd r ha hb e true q
  | Is =>
    obtain ⟨x, y, rfl, rfl, p⟩ := inrs (op := .Is) p
    obtain ⟨k, e, q⟩ := oB_ok (show Post G Wx σ ι H (oB (isW x y) h) (Wants Q G) from p) r
    unfold isW at e
    have hx : VR G H ι x u := ha
    have hy : VR G H ι y v := hb
    split at e
    · cases hy
      cases e
      refine ⟨rfl, ?_⟩
      cases hx <;> exact q
    · cases e
  | IsNot =>
    obtain ⟨x, y, rfl, rfl, p⟩ := inrs (op := .IsNot) p
    obtain ⟨k, e, q⟩ := oB_ok (show Post G Wx σ ι H (oB ((isW x y).map (!·)) h) (Wants Q G) from p) r
    rw [Option.map_eq_some_iff] at e
    obtain ⟨k, e, rfl⟩ := e
    unfold isW at e
    have hx : VR G H ι x u := ha
    have hy : VR G H ι y v := hb
    split at e
    · cases hy
      cases e
      refine ⟨rfl, ?_⟩
      cases hx <;> exact q
    · cases e
  | Lt =>
    obtain ⟨x, y, rfl, rfl, p⟩ := inrs (op := .Lt) p
    have hx : VR G H ι x u := ha
    have hy : VR G H ι y v := hb
    cases hx <;> cases hy <;> first | exact False.elim p | exact ⟨_, _, rfl, rfl, Wants.bl p r⟩
  | LtE =>
    obtain ⟨x, y, rfl, rfl, p⟩ := inrs (op := .LtE) p
    have hx : VR G H ι x u := ha
    have hy : VR G H ι y v := hb
    cases hx <;> cases hy <;> first | exact False.elim p | exact ⟨_, _, rfl, rfl, Wants.bl p r⟩
  | Gt =>
    obtain ⟨x, y, rfl, rfl, p⟩ := inrs (op := .Gt) p
    have hx : VR G H ι x u := ha
    have hy : VR G H ι y v := hb
    cases hx <;> cases hy <;> first | exact False.elim p | exact ⟨_, _, rfl, rfl, Wants.bl p r⟩
  | GtE =>
    obtain ⟨x, y, rfl, rfl, p⟩ := inrs (op := .GtE) p
    have hx : VR G H ι x u := ha
    have hy : VR G H ι y v := hb
    cases hx <;> cases hy <;> first | exact False.elim p | exact ⟨_, _, rfl, rfl, Wants.bl p r⟩
end
end MP
set_option maxRecDepth 100000
set_option maxHeartbeats 4000000
namespace MP
open PySem PySem.Spec PyProof.Rows L2

/-! ### looks at the text's trees -/
def notStar : Expr → Bool | .Starred _ _ => false | _ => true
def notSlice : Expr → Bool | .Slice _ _ _ _ => false | _ => true
def notSup : Expr → Bool | .Call (.Name _ _) [] [] _ => false | _ => true
def notSet : Expr → Bool | .Set _ _ _ => false | _ => true
def plT : Expr → Bool | .UnaryOp .Not _ _ => false | .BoolOp _ _ _ => false | .IfExp _ _ _ _ => false | .Compare _ _ _ _ => false | _ => true
theorem star_ok {e : Expr} {es : List Expr} {env : Env} (h : notStar e = true) : starEach (e :: es) env = (false, eval e env) :: starEach es env := by
  cases e <;> first | rfl | exact absurd h Bool.false_ne_true
theorem stars_ok {pos : Pos} {env : Env} : ∀ {es : List Expr}, es.all notStar = true → (backTo pos (starEach es env)).any (·.1) = false
  | [], _ => rfl
  | e :: es, h => by
    rw [List.all_cons, Bool.and_eq_true] at h
    rw [star_ok h.1]
    show (false || (backTo pos (starEach es env)).any (·.1)) = false
    rw [stars_ok h.2]
    rfl
theorem stars_all {pos : Pos} {env : Env} : ∀ {es : List Expr}, es.all notStar = true → (backTo pos (starEach es env)).all (fun x => !x.1) = true
  | [], _ => rfl
  | e :: es, h => by
    rw [List.all_cons, Bool.and_eq_true] at h
    rw [star_ok h.1]
    show (true && (backTo pos (starEach es env)).all (fun x => !x.1)) = true
    rw [stars_all h.2]
    rfl
theorem slice_ok {b : Expr} (h : notSlice b = true) : PlainIx b := by
  intro o i
  cases b <;> first | rfl | exact absurd h Bool.false_ne_true
theorem sup_ok {o : Expr} {f : Str} {env : Env} (h : notSup o = true) : attributeBase o f env (eval o env) = eval o env := by
  cases o with
  | Call fn as ks p =>
    cases fn with
    | Name id q =>
      cases as with
      | nil =>
        cases ks with
        | nil => exact absurd h Bool.false_ne_true
        | cons _ _ => rfl
      | cons _ _ => rfl
    | _ => rfl
  | _ => rfl
theorem set_ok {b : Expr} {op : CmpOp} (h : notSet b = true) : behindInMarks op b = false := by
  cases b <;> first | rfl | exact absurd h Bool.false_ne_true
theorem fold_ok {b : Expr} {env : Env} (h : notSet b = true) : ∀ x, foldedSetIterable b env x = pure x := by
  intro x
  cases b <;> first | rfl | exact absurd h Bool.false_ne_true
theorem plT_ok {e : Expr} {env : Env} (h : plT e = true) : ∀ whole, isTrue e env whole = (do let v ← whole; standAt e.pos; holding [v] (truthy v)) := by
  intro whole
  cases e with
  | UnaryOp op a p => cases op <;> first | rfl | exact absurd h Bool.false_ne_true
  | BoolOp => exact absurd h Bool.false_ne_true
  | IfExp => exact absurd h Bool.false_ne_true
  | Compare => exact absurd h Bool.false_ne_true
  | _ => rfl

/-! ### the names at hand -/
structure Ctx where
  N : List Str
  names : List (Str × NameKind)
  /-- where names may be stored -/
  sets : List (Str × NameKind)
  /-- the text's own defs -/
  fs : List Str
structure Gx (G : Pg) (lvl : Nat) (c : Ctx) (X : Cx) : Prop where
  prog : X.prog = G.P
  w : X.w = G.w
  K : X.K = G.K
  mg : X.mg = G.mg
  base : X.base = G.base
  N : X.N = c.N
  nd : c.N.Nodup
  nm : X.env.scope.names = c.names
  kd : X.env.scope.kind = .function
  st : ∀ x, (c.sets.lookup x = some .local ∨ c.sets.lookup x = some .cell) → Loc X.env.scope x ∧ (X.fn x = true ∨ X.env.scope.names.lookup x = some .local)
  calm : X.calm = true
  room : Room lvl X.A
  gd : X.A.guards = some []
def visB (c : Ctx) (x : Str) : Bool := match c.names.lookup x with
  | some .local => true | some .cell => true | some .free => true
  | _ => false
def glB (c : Ctx) (x : Str) : Bool := match c.names.lookup x with
  | some .globalImplicit => true
  | _ => false
def setB (c : Ctx) (x : Str) : Bool := match c.sets.lookup x with
  | some .local => true | some .cell => true
  | _ => false
def debB (x : Str) : Bool := !(x == ("__debug__" : Str)) && !(x == ("__classdict__" : Str))
section
variable {G : Pg} {lvl : Nat} {c : Ctx} {X : Cx} {x : Str}
theorem Gx.vis (g : Gx G lvl c X) (h : visB c x = true) : Vis X.env.scope x := by
  unfold visB at h
  unfold Vis
  rw [g.nm]
  split at h
  · exact .inl (by assumption)
  · exact .inr (.inl (by assumption))
  · exact .inr (.inr (by assumption))
  · exact absurd h Bool.false_ne_true
theorem Gx.gl (g : Gx G lvl c X) (h : glB c x = true) : Gl X x := by
  unfold glB at h
  show X.env.scope.names.lookup x = _
  rw [g.nm]
  split at h
  · assumption
  · exact absurd h Bool.false_ne_true
theorem Gx.set (g : Gx G lvl c X) (h : setB c x = true) : Loc X.env.scope x ∧ (X.fn x = true ∨ X.env.scope.names.lookup x = some .local) := by
  unfold setB at h
  split at h
  · exact g.st x (.inl (by assumption))
  · exact g.st x (.inr (by assumption))
  · exact absurd h Bool.false_ne_true
theorem deb_of (h : debB x = true) : (x == ("__debug__" : Str)) = false := by
  unfold debB at h
  rw [Bool.and_eq_true] at h
  simpa using h.1
theorem cd_of (h : debB x = true) : (x == ("__classdict__" : Str)) = false := by
  unfold debB at h
  rw [Bool.and_eq_true] at h
  simpa using h.2
theorem Gx.hu (g : Gx G lvl c X) : X.A.units + 64 < cLine := g.room.units
end

/-! ### what the module gives -/
def bltNames : List Str := ["len", "repr", "abs", "max", "min", "all", "any", "sum", "tuple", "list", "range", "zip", "enumerate", "isinstance", "int", "bool", "str", "dict", "sorted", "set", "reversed"]
def tyNames : List String := ["int", "bool", "str", "list", "tuple", "dict"]
/-- what a call promises: the small run's own end -/
def spI (G : Pg) (m : List W → List O → R W) (n : Nat) : Sp := fun vs H Q E => vs.length = n ∧ ∃ ι h ws, Rel G h ι H ∧ VRs G H ι ws vs ∧
  Post G (fun cls d _ H => E cls d H) [] ι H (m ws h) (Wants Q G)
/-- a def keeps a promise, where no repr is under way -/
structure FnG (G : Pg) (k : Nat) (f : Addr) (fd : FuncData) (ps : List Str) (sp : Sp) : Prop where
  len : ∀ vs H Q E, sp vs H Q E → vs.length = ps.length
  run : ∀ (A : Around) (outer : List Env) (s : Shared) (H : Hp) (args : Args) (us : List Value) (vs : List V) (Q : VK) (E : XK), Room k A → A.guards = some [] → Env0 G.P G.w G.K G.mg G.base A outer s H →
    BindsTo s fd args (ps.zip us) → Vals vs us → sp vs H Q E → codeAny (model G.P G.w) A (.call (.ref f) args) (CR (L2.CX G.P G.w) outer G.P G.w H s Q E) s
structure Fc (G : Pg) (C : Cn) (lvl : Nat) (fs : List Str) : Prop where
  blt : ∀ x ∈ bltNames, G.mg x = none
  glob : ∀ x w, C.gl x = some w → ∃ u v, G.mg x = some u ∧ RelV v u ∧ ∀ ι H, (∃ r, ι = G.i0 ++ r) → VR G H ι w v
  call : ∀ f ∈ fs, ∃ fa fd ps, G.mg f = some (.ref fa) ∧ PySem.W.keepIn G.K (.ref fa) = true ∧ Binds G.K fd ps [] ∧ FnG G lvl fa fd ps (spI G (C.call f) ps.length) ∧
    ∀ ws h, ws.length ≠ ps.length → C.call f ws h = .stuck

/-! ### what is shown of each expression -/
/-- an operand -/
def tO (G : Pg) (Wx : WX) (m : Lo → List O → R Opd) : TE := fun σ H Q => ∃ ι h ℓ, Rel G h ι H ∧ LR G H ι ℓ σ ∧ Post G Wx σ ι H (m ℓ h) fun o _ ι' H' => ∀ v, OpdR G H' ι' o v → Q v H'
/-- a list or a tuple -/
def tS (G : Pg) (Wx : WX) (m : Lo → List O → R (List W)) : TE := fun σ H Q => ∃ ι h ℓ, Rel G h ι H ∧ LR G H ι ℓ σ ∧
  Post G Wx σ ι H (m ℓ h) fun ws _ ι' H' => ∀ a vs, (SqL G.K H' a vs ∨ SqT G.K H' a vs) → VRs G H' ι' ws vs → Q (.ref a) H'
structure OkE (G : Pg) (Wx : WX) (X : Cx) (s : Sm) (e : Expr) : Prop where
  v : PE X e (tV G Wx s.v)
  t : PT X e (tT G Wx s.t)
  l : s.e = true → PE X e (tL G Wx s.l)
  sl : s.e = false → ∀ ℓ h, s.l ℓ h = (s.v ℓ h).bind fun w h => seqR h w
section
variable {G : Pg} {lvl : Nat} {c : Ctx} {X : Cx} {Wx : WX} {C : Cn} {a b e : Expr} {es : List Expr} {pos : Pos}
/-- where a run begins -/
theorem tV.run {m : Lo → List O → R W} {σ : L2.St} {H : Hp} {Q : VK} (h : tV G Wx m σ H Q) : ∃ ι h ℓ, Rel G h ι H ∧ LR G H ι ℓ σ ∧ Post G Wx σ ι H (m ℓ h) (Wants Q G) := h
theorem tru_sound {ι : List Addr} {H : Hp} {h : List O} {w : W} {v : V} {k : Bool} (r : Rel G h ι H) (hv : VR G H ι w v) (e : truW h w = some k) : TruV G.K v H k := by
  cases hv with
  | non => cases e; rfl
  | bl b => cases e; rfl
  | int i => cases e; rfl
  | str x =>
    dsimp only [truW] at e
    split at e
    · cases e
      exact ⟨by assumption, rfl⟩
    · cases e
  | tup hs hr =>
    cases e
    refine .inr (.inl ⟨_, hs, ?_⟩)
    cases hr <;> rfl
  | slst hs hr =>
    cases e
    refine .inl ⟨_, hs.sql, ?_⟩
    cases hr <;> rfl
  | ref ha =>
    dsimp only [truW] at e
    split at e
    · rename_i ws eo
      cases e
      obtain ⟨vs, h1, h2⟩ := r.sql eo ha
      refine .inl ⟨vs, h1, ?_⟩
      cases h2 <;> rfl
    · cases e
theorem truR_ok {ι : List Addr} {H : Hp} {h : List O} {w : W} {v : V} {σ : L2.St} {k : Bool → List O → List Addr → Hp → Prop} (r : Rel G h ι H) (hv : VR G H ι w v) (p : Post G Wx σ ι H (truR h w) k) : ∃ b, TruV G.K v H b ∧ k b h ι H := by
  unfold truR at p
  split at p
  · exact ⟨_, tru_sound r hv (by assumption), p.ok r⟩
  · exact False.elim p
/-- a value's truth as a test -/
theorem PT.ofV {m : Lo → List O → R W} (g : Gx G lvl c X) (h : PE X e (tV G Wx m)) (he : plT e = true) : PT X e (tT G Wx fun ℓ h => (m ℓ h).bind fun w h => truR h w) := by
  refine PT.imp (pt_truth h (plT_ok he)) fun σ H Q ⟨ι, hh, ℓ, r, lr, p⟩ => ?_
  refine ⟨ι, hh, ℓ, r, lr, p.bind.imp fun w h1 ι1 H1 s1 r1 p1 v hv => ?_⟩
  obtain ⟨b, h1, h2⟩ := truR_ok r1 hv p1
  rw [g.K]
  exact ⟨b, h1, h2⟩
/-- a plain value -/
theorem OkE.ofV {v : Lo → List O → R W} (g : Gx G lvl c X) (h : PE X e (tV G Wx v)) (he : plT e = true) : OkE G Wx X (smV v) e :=
  ⟨h, PT.ofV g h he, fun z => absurd z Bool.false_ne_true, fun _ _ _ => rfl⟩
/-- a new list, read as a value -/
theorem tL_of {l : Lo → List O → R (List W)} {σ : L2.St} {H : Hp} {Q : VK} (hv : tV G Wx (fun ℓ h => (l ℓ h).bind fun ws h => alloc (.lst ws) h) σ H Q) : tL G Wx l σ H Q := by
  obtain ⟨ι, hh, ℓ, r, lr, p⟩ := hv
  refine ⟨ι, hh, ℓ, r, lr, ?_⟩
  have p : Post G Wx σ ι H ((l ℓ hh).bind fun ws h => alloc (.lst ws) h) (Wants Q G) := p
  revert p
  cases l ℓ hh with
  | stuck => exact fun p => p
  | exc x h' => exact fun p => p
  | ok ws h' =>
    intro p ι' H' s q D vs hD nD eD hr
    have s2 : Step ι H (ι' ++ [D]) H' := by
      obtain ⟨t, et, ht⟩ := s.ext
      refine ⟨⟨t ++ [D], by rw [et, List.append_assoc], fun a ha => ?_⟩, s.keep, s.there, s.tups, s.frzs⟩
      rcases List.mem_append.mp ha with ha | ha
      · exact ht a ha
      · rw [List.mem_singleton.mp ha]; exact hD
    have mono : VRs G H' (ι' ++ [D]) ws vs := by
      refine VRs.rec (motive_1 := fun w v _ => VR G H' (ι' ++ [D]) w v) (motive_2 := fun ws vs _ => VRs G H' (ι' ++ [D]) ws vs) .non (fun b => .bl b) (fun i => .int i) (fun x => .str x) (fun hs _ ih => .tup hs ih) (fun hs _ ih => .slst hs ih) (fun {n b} e => .ref (by rw [List.getElem?_append_left (List.getElem?_eq_some_iff.mp e).1]; exact e)) .nil (fun _ _ i1 i2 => .cons i1 i2) hr
    have q2 : Rel G (h' ++ [.lst ws]) (ι' ++ [D]) H' := q.alloc nD ⟨vs, eD, mono⟩ .refl
    have p2 : Post G Wx σ ι H (.ok (.ref h'.length) (h' ++ [.lst ws])) (Wants Q G) := p
    refine p2 _ H' s2 q2 _ (.ref ?_)
    rw [List.getElem?_append_right (by rw [q.len]; exact Nat.le_refl _), q.len, Nat.sub_self]
    rfl
theorem PE.ofL {l : Lo → List O → R (List W)} (h : PE X e (tL G Wx l)) : PE X e (tV G Wx fun ℓ h => (l ℓ h).bind fun ws h => alloc (.lst ws) h) := PE.imp h fun σ H Q q => tL_of q
theorem OkE.ofL {l : Lo → List O → R (List W)} (g : Gx G lvl c X) (h : PE X e (tL G Wx l)) (he : plT e = true) : OkE G Wx X (smL l) e := by
  refine ⟨PE.ofL h, ?_, fun _ => h, fun z => absurd z.symm Bool.false_ne_true⟩
  refine PT.imp (pt_truth h (plT_ok he)) fun σ H Q ⟨ι, hh, ℓ, r, lr, p⟩ => ?_
  refine ⟨ι, hh, ℓ, r, lr, p.bind.imp fun ws h1 ι1 H1 s1 r1 p1 D vs hD nD eD hr => ⟨!ws.isEmpty, .inl ⟨vs, .of eD, ?_⟩, p1.ok r1⟩⟩
  cases hr <;> rfl
/-- as an operand -/
theorem OkE.o {s : Sm} (h : OkE G Wx X s e) : PE X e (tO G Wx s.opd) := by
  cases hs : s.e with
  | true =>
    refine PE.imp (h.l hs) fun σ H Q ⟨ι, hh, ℓ, r, lr, p⟩ => ⟨ι, hh, ℓ, r, lr, ?_⟩
    unfold Sm.opd at p
    rw [hs, if_pos rfl] at p
    refine p.bind.imp fun ws h1 ι1 H1 s1 r1 p1 D vs hD nD eD hr => ?_
    exact p1.ok r1 _ ⟨D, vs, rfl, eD, nD, hr⟩
  | false =>
    refine PE.imp h.v fun σ H Q ⟨ι, hh, ℓ, r, lr, p⟩ => ⟨ι, hh, ℓ, r, lr, ?_⟩
    unfold Sm.opd at p
    rw [hs, if_neg Bool.false_ne_true] at p
    exact p.bind.imp fun w h1 ι1 H1 s1 r1 p1 v hv => p1.ok r1 _ hv
/-- as a list or a tuple -/
theorem OkE.s {s : Sm} (h : OkE G Wx X s e) : PE X e (tS G Wx s.l) := by
  cases hs : s.e with
  | true =>
    refine PE.imp (h.l hs) fun σ H Q ⟨ι, hh, ℓ, r, lr, p⟩ => ⟨ι, hh, ℓ, r, lr, p.imp fun ws h1 ι1 H1 s1 r1 p1 D vs hD nD eD hr => p1 D vs (.inl (.of eD)) hr⟩
  | false =>
    refine PE.imp h.v fun σ H Q ⟨ι, hh, ℓ, r, lr, p⟩ => ⟨ι, hh, ℓ, r, lr, ?_⟩
    rw [h.sl hs] at p
    refine p.bind.imp fun w h1 ι1 H1 s1 r1 p1 v hv => ?_
    unfold seqR at p1
    split at p1
    · obtain ⟨a, vs, rfl, h2, h3⟩ := seq_of r1 hv (by assumption)
      exact p1.ok r1 a vs h2 h3
    · exact False.elim p1

/-! ### constants and names -/
theorem e_const {w : W} {v : V} (he : PE X e (tC v)) (hv : ∀ H ι, VR G H ι w v) : PE X e (tV G Wx fun _ h => .ok w h) :=
  PE.imp he fun σ H Q ⟨ι, hh, ℓ, r, lr, p⟩ => p.ok r _ (hv H ι)
theorem e_var {i : Nat} {x : Str} (g : Gx G lvl c X) (hN : c.N[i]? = some x) (hv : visB c x = true) (hd : debB x = true) : PE X (.Name x pos) (tV G Wx fun ℓ h => ofO (getL ℓ i) h) := by
  refine PE.imp (pe_var (i := i) (by rw [g.N]; exact hN) (g.vis hv) (deb_of hd) (cd_of hd)) fun σ H Q ⟨ι, hh, ℓ, r, lr, p⟩ => ?_
  have p : Post G Wx σ ι H (ofO (getL ℓ i) hh) (Wants Q G) := p
  cases eo : getL ℓ i with
  | none => rw [eo] at p; exact False.elim p
  | some w =>
    rw [eo] at p
    obtain ⟨v, h1, h2⟩ := lr.at_ i w eo
    exact ⟨v, h1, p.ok r _ h2⟩
theorem e_glob {x : Str} (F : Fc G C lvl c.fs) (g : Gx G lvl c X) (hv : glB c x = true) (hd : debB x = true) : PE X (.Name x pos) (tV G Wx fun _ h => ofO (C.gl x) h) := by
  cases eo : C.gl x with
  | none => exact ⟨fun pins s σ H Q I ⟨ι, hh, ℓ, r, lr, p⟩ => False.elim p⟩
  | some w =>
    obtain ⟨u, v, h1, h2, h3⟩ := F.glob x w eo
    exact PE.imp (pe_glob (g.gl hv) (by rw [g.mg]; exact h1) h2 (deb_of hd)) fun σ H Q ⟨ι, hh, ℓ, r, lr, p⟩ => p.ok r _ (h3 ι H r.pre)

/-! ### arguments -/
theorem a_nil : PA X [] (tA G Wx fun _ h => .ok [] h) := PA.imp pa_nil fun σ H Q ⟨ι, hh, ℓ, r, lr, p⟩ => p.ok r _ .nil
theorem a_cons {m : Lo → List O → R W} {ms : Lo → List O → R (List W)} (ha : PE X e (tV G Wx m)) (hr : PA X es (tA G Wx ms)) (hs : notStar e = true) :
    PA X (e :: es) (tA G Wx fun ℓ h => (m ℓ h).bind fun w h => (ms ℓ h).bind fun ws h => .ok (w :: ws) h) := by
  refine PA.imp (pa_cons ha hr (star_ok hs)) fun σ H Q ⟨ι, hh, ℓ, r, lr, p⟩ => ?_
  refine ⟨ι, hh, ℓ, r, lr, p.bind.imp fun w h1 ι1 H1 s1 r1 p1 v hv => ?_⟩
  refine ⟨ι1, h1, ℓ, r1, lr.mono s1, p1.bind.imp fun ws h2 ι2 H2 s2 r2 p2 vs hvs => ?_⟩
  exact p2.ok r2 _ (.cons (hv.mono s2) hvs)
/-- one argument, by any reading -/
theorem a_one {t : TE} (ha : PE X e t) (hs : notStar e = true) : PA X [e] (tCons t tNil) := pa_cons ha pa_nil (star_ok hs)

/-! ### displays -/
theorem e_tup {ms : Lo → List O → R (List W)} {k : Nat} (ha : PA X es (tA G Wx ms)) : PE X (.Tuple es k pos) (tV G Wx fun ℓ h => (ms ℓ h).bind fun ws h => chk (decide (ws.length ≤ sizeLine)) (.ok (.tup ws) h)) := by
  refine PE.imp (pe_tup ha) fun σ H Q ⟨ι, hh, ℓ, r, lr, p⟩ => ?_
  refine ⟨ι, hh, ℓ, r, lr, p.bind.imp fun ws h1 ι1 H1 s1 r1 p1 vs hvs => ?_⟩
  obtain ⟨cz, p1⟩ := p1.chk
  refine ⟨by rw [← hvs.length]; exact of_decide_eq_true cz, fun q hq => ?_⟩
  have s : Step ι1 H1 ι1 (upd H1 q (.tup vs)) := Step.new hq
  exact p1 ι1 _ s (r1.new hq) _ (.tup (.of upd_same) (hvs.mono s))
theorem e_lst {ms : Lo → List O → R (List W)} (ha : PA X es (tA G Wx ms)) : PE X (.List es pos) (tL G Wx fun ℓ h => (ms ℓ h).bind fun ws h => chk (decide (ws.length ≤ sizeLine)) (.ok ws h)) := by
  refine PE.imp (pe_lst ha) fun σ H Q ⟨ι, hh, ℓ, r, lr, p⟩ => ?_
  refine ⟨ι, hh, ℓ, r, lr, p.bind.imp fun ws h1 ι1 H1 s1 r1 p1 vs hvs => ?_⟩
  obtain ⟨cz, p1⟩ := p1.chk
  refine ⟨by rw [← hvs.length]; exact of_decide_eq_true cz, fun q hq => ?_⟩
  have s : Step ι1 H1 ι1 (upd H1 q (.lst vs)) := Step.new hq
  exact p1 ι1 _ s (r1.new hq) q vs (s1.back hq) (r1.fresh hq) upd_same (hvs.mono s)
end
end MP
set_option maxRecDepth 100000
set_option maxHeartbeats 4000000
namespace MP
open PySem PySem.Spec PyProof.Rows L2
section
variable {G : Pg} {lvl : Nat} {c : Ctx} {X : Cx} {Wx : WX} {C : Cn} {a b d e : Expr} {es : List Expr} {pos : Pos} {sa sb sc : Sm}

/-! ### operators -/
theorem e_bin {op : Operator} {ma mb : Lo → List O → R W} (g : Gx G lvl c X) (ha : PE X a (tV G Wx ma)) (hb : PE X b (tV G Wx mb)) :
    PE X (.BinOp a op b pos) (tV G Wx fun ℓ h => (ma ℓ h).bind fun x h => (mb ℓ h).bind fun y h => binW op x y h) := by
  refine PE.imp (pe_op (op_bin op) ha hb) fun σ H Q ⟨ι, hh, ℓ, r, lr, p⟩ => ?_
  refine ⟨ι, hh, ℓ, r, lr, p.bind.imp fun x h1 ι1 H1 s1 r1 p1 u hu => ?_⟩
  refine ⟨ι1, h1, ℓ, r1, lr.mono s1, p1.bind.imp fun y h2 ι2 H2 s2 r2 p2 v hv => ?_⟩
  rw [g.K]
  exact bin_sound (hu.mono s2) hv r2 p2
theorem e_neg {ma : Lo → List O → R W} (ha : PE X a (tV G Wx ma)) :
    PE X (.UnaryOp .USub a pos) (tV G Wx fun ℓ h => (ma ℓ h).bind fun x h => match x with | .int i => .ok (.int (-i)) h | _ => .stuck) := by
  refine PE.imp (pe_un un_neg ha) fun σ H Q ⟨ι, hh, ℓ, r, lr, p⟩ => ?_
  refine ⟨ι, hh, ℓ, r, lr, p.bind.imp fun x h1 ι1 H1 s1 r1 p1 u hu => ?_⟩
  cases hu <;> first
    | exact False.elim p1
    | exact ⟨_, rfl, Wants.int p1 r1⟩
theorem e_not (g : Gx G lvl c X) (ha : OkE G Wx X sa a) :
    OkE G Wx X { smV (fun ℓ h => (sa.v ℓ h).bind fun w h => (truR h w).bind fun b h => .ok (.bl (!b)) h) with t := fun ℓ h => (sa.t ℓ h).bind fun b h => .ok (!b) h } (.UnaryOp .Not a pos) := by
  refine ⟨?_, ?_, fun z => absurd z Bool.false_ne_true, fun _ _ _ => rfl⟩
  · refine PE.imp (pe_notT ha.v) fun σ H Q ⟨ι, hh, ℓ, r, lr, p⟩ => ?_
    refine ⟨ι, hh, ℓ, r, lr, p.bind.imp fun x h1 ι1 H1 s1 r1 p1 u hu => ?_⟩
    obtain ⟨k, h2, h3⟩ := truR_ok r1 hu p1.bind
    rw [g.K]
    exact ⟨k, h2, Wants.bl h3 r1⟩
  · refine PT.imp (pt_not ha.t) fun σ H Q ⟨ι, hh, ℓ, r, lr, p⟩ => ?_
    exact ⟨ι, hh, ℓ, r, lr, p.bind.imp fun x h1 ι1 H1 s1 r1 p1 => p1.ok r1⟩

/-! ### and, or -/
structure OkB (G : Pg) (Wx : WX) (X : Cx) (s : Sm) (e : Expr) : Prop where
  v : PE X e (tV G Wx s.v)
  t : PW X e (tT G Wx s.t)
theorem b_one {op : BoolOp} (ha : OkE G Wx X sa a) : OkB G Wx X sa (.BoolOp op [a] pos) :=
  ⟨pe_one ha.v, by cases op with | And => exact pw_and1 ha.t | Or => exact pw_or1 ha.t⟩
def boolSm (op : BoolOp) (sa sb : Sm) : Sm := { smV (fun ℓ h => (sa.v ℓ h).bind fun w h => (truR h w).bind fun k h => match op with
      | .And => if k = true then sb.v ℓ h else .ok w h
      | .Or => if k = true then .ok w h else sb.v ℓ h) with
    t := fun ℓ h => (sa.t ℓ h).bind fun k h => match op with
      | .And => if k = true then sb.t ℓ h else .ok false h
      | .Or => if k = true then .ok true h else sb.t ℓ h }
theorem b_more {op : BoolOp} (g : Gx G lvl c X) (ha : OkE G Wx X sa a) (hb : OkB G Wx X sb (.BoolOp op (b :: es) pos)) : OkB G Wx X (boolSm op sa sb) (.BoolOp op (a :: b :: es) pos) := by
  cases op with
  | And =>
    refine ⟨?_, ?_⟩
    · refine PE.imp (pe_andT ha.v hb.v) fun σ H Q ⟨ι, hh, ℓ, r, lr, p⟩ => ?_
      refine ⟨ι, hh, ℓ, r, lr, p.bind.imp fun x h1 ι1 H1 s1 r1 p1 u hu => ?_⟩
      obtain ⟨k, h2, h3⟩ := truR_ok r1 hu p1.bind
      rw [g.K]
      refine ⟨k, h2, ?_⟩
      cases k with
      | true => exact iteT ⟨ι1, h1, ℓ, r1, lr.mono s1, h3⟩
      | false => exact iteF (h3.ok r1 _ hu)
    · refine PW.imp (pw_and ha.t hb.t) fun σ H Q ⟨ι, hh, ℓ, r, lr, p⟩ => ?_
      refine ⟨ι, hh, ℓ, r, lr, p.bind.imp fun k h1 ι1 H1 s1 r1 p1 => ?_⟩
      cases k with
      | true => exact iteT ⟨ι1, h1, ℓ, r1, lr.mono s1, p1⟩
      | false => exact iteF (p1.ok r1)
  | Or =>
    refine ⟨?_, ?_⟩
    · refine PE.imp (pe_orT ha.v hb.v) fun σ H Q ⟨ι, hh, ℓ, r, lr, p⟩ => ?_
      refine ⟨ι, hh, ℓ, r, lr, p.bind.imp fun x h1 ι1 H1 s1 r1 p1 u hu => ?_⟩
      obtain ⟨k, h2, h3⟩ := truR_ok r1 hu p1.bind
      rw [g.K]
      refine ⟨k, h2, ?_⟩
      cases k with
      | true => exact iteT (h3.ok r1 _ hu)
      | false => exact iteF ⟨ι1, h1, ℓ, r1, lr.mono s1, h3⟩
    · refine PW.imp (pw_or ha.t hb.t) fun σ H Q ⟨ι, hh, ℓ, r, lr, p⟩ => ?_
      refine ⟨ι, hh, ℓ, r, lr, p.bind.imp fun k h1 ι1 H1 s1 r1 p1 => ?_⟩
      cases k with
      | true => exact iteT (p1.ok r1)
      | false => exact iteF ⟨ι1, h1, ℓ, r1, lr.mono s1, p1⟩
theorem b_end {op : BoolOp} (g : Gx G lvl c X) (hb : OkB G Wx X sb (.BoolOp op es pos)) (he : sb.e = false) (hl : ∀ ℓ h, sb.l ℓ h = (sb.v ℓ h).bind fun w h => seqR h w) : OkE G Wx X sb (.BoolOp op es pos) :=
  ⟨hb.v, hb.t.pt, fun z => absurd (he.symm.trans z) Bool.false_ne_true, fun _ => hl⟩

/-! ### comparisons -/
theorem unBl_ok {ι : List Addr} {H : Hp} {σ : L2.St} {rw' : R W} {k : Bool → List O → List Addr → Hp → Prop} (p : Post G Wx σ ι H (unBl rw') k) : Post G Wx σ ι H rw' fun w h' ι' H' => ∃ b, w = .bl b ∧ k b h' ι' H' := by
  refine (Post.bind p).imp fun w h1 ι1 H1 s1 r1 p1 => ?_
  split at p1
  · exact ⟨_, rfl, p1.ok r1⟩
  · exact False.elim p1
theorem opd_run {s : Sm} (ha : OkE G Wx X s a) : PE X a (tO G Wx s.opd) := ha.o
def cmpSm (op : CmpOp) (sa sb : Sm) : Sm := let v := fun ℓ h => (sa.opd ℓ h).bind fun x h => (sb.opd ℓ h).bind fun y h => cmpO op x y h
    { smV v with t := fun ℓ h => unBl (v ℓ h) }
theorem Wants.of {σ : L2.St} {ι : List Addr} {H : Hp} {r : R W} {f : Bool → Hp → Prop} {k : W → List O → List Addr → Hp → Prop} (p : Post G Wx σ ι H r k)
    (hk : ∀ w h' ι' H', k w h' ι' H' → ∃ b, w = .bl b ∧ f b H') : Post G Wx σ ι H r (Wants (fun v H' => ∃ b, v = .bl b ∧ f b H') G) := by
  refine p.imp fun w h1 ι1 H1 s1 r1 q v hv => ?_
  obtain ⟨b, rfl, q2⟩ := hk w h1 ι1 H1 q
  cases hv
  exact ⟨b, rfl, q2⟩
theorem e_cmp {op : CmpOp} (g : Gx G lvl c X) (ha : OkE G Wx X sa a) (hb : OkE G Wx X sb b) (hn : notSet b = true) : OkE G Wx X (cmpSm op sa sb) (.Compare a [op] [b] pos) := by
  have ho : OpR X (compareOp op) (rCmp G.K op) := op_cmp g.hu g.K op
  refine ⟨?_, ?_, fun z => absurd z Bool.false_ne_true, fun _ _ _ => rfl⟩
  · refine PE.imp (pe_cmpR ho ha.o hb.o (set_ok hn)) fun σ H Q ⟨ι, hh, ℓ, r, lr, p⟩ => ?_
    refine ⟨ι, hh, ℓ, r, lr, (Post.bind p).imp fun x h1 ι1 H1 s1 r1 p1 u hu => ?_⟩
    refine ⟨ι1, h1, ℓ, r1, lr.mono s1, (Post.bind p1).imp fun y h2 ι2 H2 s2 r2 p2 v hv => ?_⟩
    exact cmp_sound (hu.mono s2) hv r2 p2
  · refine PT.imp (pt_cmpR ho ha.o hb.o (set_ok hn)) fun σ H Q ⟨ι, hh, ℓ, r, lr, p⟩ => ?_
    have p : Post G Wx σ ι H (unBl ((sa.opd ℓ hh).bind fun x h => (sb.opd ℓ h).bind fun y h => cmpO op x y h)) _ := p
    have p := Wants.of (unBl_ok p) (f := Q) fun w h' ι' H' z => z
    refine ⟨ι, hh, ℓ, r, lr, (Post.bind p).imp fun x h1 ι1 H1 s1 r1 p1 u hu => ?_⟩
    refine ⟨ι1, h1, ℓ, r1, lr.mono s1, (Post.bind p1).imp fun y h2 ι2 H2 s2 r2 p2 v hv => ?_⟩
    exact cmp_sound (hu.mono s2) hv r2 p2
theorem cmpW_O {op : CmpOp} {x y : W} {h : List O} : cmpW op x y h = cmpO op (.inr x) (.inr y) h := by cases op <;> rfl
def chainSm (op1 op2 : CmpOp) (sa sb sc : Sm) : Sm := let v := fun ℓ h => (sa.v ℓ h).bind fun x h => (sb.v ℓ h).bind fun y h => (unBl (cmpW op1 x y h)).bind fun k h =>
      if k = true then ((sc.v ℓ h).bind (fun z h => cmpW op2 y z h)) else .ok (.bl false) h
    { smV v with t := fun ℓ h => unBl (v ℓ h) }
theorem e_chain {op1 op2 : CmpOp} (g : Gx G lvl c X) (ha : OkE G Wx X sa a) (hb : OkE G Wx X sb b) (hd : OkE G Wx X sc d) (hn : notSet d = true) : OkE G Wx X (chainSm op1 op2 sa sb sc) (.Compare a [op1, op2] [b, d] pos) := by
  have ho1 : OpR X (compareOp op1) (rCmp G.K op1) := op_cmp g.hu g.K op1
  have ho2 : OpR X (compareOp op2) (rCmp G.K op2) := op_cmp g.hu g.K op2
  have body : ∀ (σ : L2.St) (H : Hp) (Q : VK) (ι : List Addr) (hh : List O) (ℓ : Lo), Rel G hh ι H → LR G H ι ℓ σ → Post G Wx σ ι H ((chainSm op1 op2 sa sb sc).v ℓ hh) (Wants Q G) → tChain (rCmp G.K op1) (rCmp G.K op2) (tV G Wx sa.v) (tV G Wx sb.v) (tV G Wx sc.v) σ H Q := by
    intro σ H Q ι hh ℓ r lr p
    refine ⟨ι, hh, ℓ, r, lr, (Post.bind p).imp fun x h1 ι1 H1 s1 r1 p1 u hu => ?_⟩
    refine ⟨ι1, h1, ℓ, r1, lr.mono s1, (Post.bind p1).imp fun y h2 ι2 H2 s2 r2 p2 v hv => ?_⟩
    have p3 := unBl_ok (Post.bind p2)
    rw [cmpW_O] at p3
    refine cmp_sound (Q := fun z H3 => ∃ k, z = .bl k ∧ if k = true then tV G Wx sc.v σ H3 (fun w' H4 => rCmp G.K op2 v w' H4 Q) else Q (.bl false) H3) (show OpdR G H2 ι2 (.inr x) u from hu.mono s2) (show OpdR G H2 ι2 (.inr y) v from hv) r2 (p3.imp fun w h3 ι3 H3 s3 r3 p4 z hz => ?_)
    obtain ⟨k, rfl, p4⟩ := p4
    cases hz
    refine ⟨k, rfl, ?_⟩
    cases k with
    | true =>
      refine iteT ⟨ι3, h3, ℓ, r3, (lr.mono s1).mono (s2.trans s3), (Post.bind p4).imp fun z h4 ι4 H4 s4 r4 p5 w' hw' => ?_⟩
      rw [cmpW_O] at p5
      exact cmp_sound (show OpdR G H4 ι4 (.inr y) v from hv.mono (s3.trans s4)) (show OpdR G H4 ι4 (.inr z) w' from hw') r4 p5
    | false => exact iteF (Wants.bl p4 r3)
  refine ⟨?_, ?_, fun z => absurd z Bool.false_ne_true, fun _ _ _ => rfl⟩
  · exact PE.imp (pe_chain ho1 ho2 ha.v hb.v hd.v (by show behindInMarks op2 d = false; exact set_ok hn)) fun σ H Q ⟨ι, hh, ℓ, r, lr, p⟩ => body σ H Q ι hh ℓ r lr p
  · refine PT.imp (pt_chain ho1 ho2 ha.v hb.v hd.v (by show behindInMarks op2 d = false; exact set_ok hn)) fun σ H Q ⟨ι, hh, ℓ, r, lr, p⟩ => ?_
    exact body σ H _ ι hh ℓ r lr (Wants.of (unBl_ok p) (f := Q) fun w h' ι' H' z => z)

/-! ### a if t else b -/
def iteSm (sc sa sb : Sm) : Sm := { smV (fun ℓ h => (sc.t ℓ h).bind fun k h => if k = true then sa.v ℓ h else sb.v ℓ h) with
      t := fun ℓ h => (sc.t ℓ h).bind fun k h => if k = true then sa.t ℓ h else sb.t ℓ h }
theorem e_ite (hc : OkE G Wx X sc d) (ha : OkE G Wx X sa a) (hb : OkE G Wx X sb b) : OkE G Wx X (iteSm sc sa sb) (.IfExp d a b pos) := by
  refine ⟨?_, ?_, fun z => absurd z Bool.false_ne_true, fun _ _ _ => rfl⟩
  · refine PE.imp (pe_ifExp hc.t ha.v hb.v) fun σ H Q ⟨ι, hh, ℓ, r, lr, p⟩ => ?_
    refine ⟨ι, hh, ℓ, r, lr, (Post.bind p).imp fun k h1 ι1 H1 s1 r1 p1 => ?_⟩
    cases k with
    | true => exact iteT ⟨ι1, h1, ℓ, r1, lr.mono s1, p1⟩
    | false => exact iteF ⟨ι1, h1, ℓ, r1, lr.mono s1, p1⟩
  · refine ⟨fun pins s σ H Q I ⟨ι, hh, ℓ, r, lr, p⟩ => ?_⟩
    refine isTrue_IfExp (thn (hc.t.run pins s σ H (fun k H1 => if k = true then tT G Wx sa.t σ H1 Q else tT G Wx sb.t σ H1 Q) I ⟨ι, hh, ℓ, r, lr, (Post.bind p).imp fun k h1 ι1 H1 s1 r1 p1 => ?_⟩) fun k s1 ⟨H1, I1, q1⟩ => ?_)
    · cases k with
      | true => exact iteT ⟨ι1, h1, ℓ, r1, lr.mono s1, p1⟩
      | false => exact iteF ⟨ι1, h1, ℓ, r1, lr.mono s1, p1⟩
    · cases k with
      | true => exact ha.t.run pins s1 σ H1 Q I1 q1
      | false => exact hb.t.run pins s1 σ H1 Q I1 q1

/-! ### subscripts and slices -/
def subSm (sa sb : Sm) : Sm := smV fun ℓ h => (sa.opd ℓ h).bind fun x h => (sb.v ℓ h).bind fun y h => match x with
    | .inl ws => match y with
      | .int i => ofO (atI ws i) h
      | _ => .stuck
    | .inr x => subW x y h
theorem atI_R {ι : List Addr} {H : Hp} {ws : List W} {vs : List V} {i : Int} {w : W} (hr : VRs G H ι ws vs) (e : atI ws i = some w) : ∃ v, atI vs i = some v ∧ VR G H ι w v := by
  unfold atI at e ⊢
  rw [← hr.length]
  cases hj : ixN ws.length i with
  | none => rw [hj] at e; cases e
  | some j =>
    rw [hj] at e
    exact hr.get e
theorem e_sub (g : Gx G lvl c X) (ha : OkE G Wx X sa a) (hb : OkE G Wx X sb b) (hs : notSlice b = true) : OkE G Wx X (subSm sa sb) (.Subscript a b pos) := by
  refine OkE.ofV g ?_ rfl
  refine PE.imp (pe_ix ix_seq ha.o hb.v (slice_ok hs)) fun σ H Q ⟨ι, hh, ℓ, r, lr, p⟩ => ?_
  refine ⟨ι, hh, ℓ, r, lr, (Post.bind p).imp fun x h1 ι1 H1 s1 r1 p1 u hu => ?_⟩
  refine ⟨ι1, h1, ℓ, r1, lr.mono s1, (Post.bind p1).imp fun y h2 ι2 H2 s2 r2 p2 v hv => ?_⟩
  have hu2 := hu.mono s2
  rw [g.K]
  cases x with
  | inl ws =>
    obtain ⟨D, vs, rfl, eD, nD, hr⟩ := hu2
    cases hv <;> first
      | exact False.elim p2
      | skip
    rename_i i
    have p2 : Post G Wx σ ι2 H2 (ofO (atI ws i) h2) (Wants Q G) := p2
    cases ew : atI ws i with
    | none => rw [ew] at p2; exact False.elim p2
    | some w =>
      rw [ew] at p2
      obtain ⟨z, e1, e2⟩ := atI_R hr ew
      exact .inl ⟨D, vs, i, z, rfl, rfl, .of eD, e1, p2.ok r2 _ e2⟩
  | inr x =>
    have hx : VR G H2 ι2 x u := hu2
    have p2 : Post G Wx σ ι2 H2 (subW x y h2) (Wants Q G) := p2
    unfold subW at p2
    split at p2
    · cases hx; cases hv
      obtain ⟨cz, p2⟩ := p2.chk
      split at p2
      · exact .inr (.inr ⟨_, _, _, rfl, rfl, of_decide_eq_true cz, by assumption, Wants.str p2 r2⟩)
      · exact False.elim p2
    · cases hv
      split at p2
      · rename_i ws es
        split at p2
        · rename_i w ew
          obtain ⟨q, vs, rfl, hsq, hr⟩ := seq_of r2 hx es
          obtain ⟨z, e1, e2⟩ := atI_R hr ew
          rcases hsq with hsq | hsq
          · exact .inl ⟨q, vs, _, z, rfl, rfl, hsq, e1, p2.ok r2 _ e2⟩
          · exact .inr (.inl ⟨q, vs, _, z, rfl, rfl, hsq, e1, p2.ok r2 _ e2⟩)
        · exact False.elim p2
      · exact False.elim p2
    · exact False.elim p2
/-- an end of a slice -/
def tP (G : Pg) (Wx : WX) (m : Lo → List O → R (Option Int)) : TO := fun σ H Q => ∃ ι h ℓ, Rel G h ι H ∧ LR G H ι ℓ σ ∧ Post G Wx σ ι H (m ℓ h) fun o _ _ H' => Q o H'
theorem PO.imp {o : Option Expr} {t t' : TO} (h : PO X o t) (f : ∀ σ H Q, t' σ H Q → t σ H Q) : PO X o t' := ⟨fun pins s σ H Q I q => h.run pins s σ H Q I (f σ H Q q)⟩
theorem o_none : PO X none (tP G Wx fun _ h => .ok none h) := PO.imp po_none fun σ H Q ⟨ι, hh, ℓ, r, lr, p⟩ => p.ok r
theorem o_some {m : Lo → List O → R W} (he : PE X e (tV G Wx m)) : PO X (some e) (tP G Wx fun ℓ h => (m ℓ h).bind fun w h => match w with
    | .int i => .ok (some i) h
    | _ => .stuck) := by
  refine PO.imp (po_some he) fun σ H Q ⟨ι, hh, ℓ, r, lr, p⟩ => ?_
  refine ⟨ι, hh, ℓ, r, lr, p.bind.imp fun x h1 ι1 H1 s1 r1 p1 u hu => ?_⟩
  cases hu <;> first
    | exact False.elim p1
    | exact ⟨_, rfl, p1.ok r1⟩
theorem lsqO_ok {ι : List Addr} {H : Hp} {h : List O} {σ : L2.St} {x : Opd} {u : V} {k : List W → List O → List Addr → Hp → Prop} (r : Rel G h ι H) (hu : OpdR G H ι x u) (p : Post G Wx σ ι H (lsqO h x) k) :
    ∃ q vs ws, u = .ref q ∧ SqL G.K H q vs ∧ VRs G H ι ws vs ∧ k ws h ι H := by
  unfold lsqO at p
  split at p
  · obtain ⟨D, vs, rfl, eD, nD, hr⟩ := hu
    exact ⟨D, vs, _, rfl, .of eD, hr, p.ok r⟩
  · cases (show VR G H ι _ u from hu) with
    | slst hs hr => exact ⟨_, _, _, rfl, hs.sql, hr, p.ok r⟩
  · cases (show VR G H ι _ u from hu) with
    | ref ha =>
      split at p
      · obtain ⟨vs, h1, h2⟩ := r.sql (by assumption) ha
        exact ⟨_, vs, _, rfl, h1, h2, p.ok r⟩
      · exact False.elim p
  · exact False.elim p
theorem lstO_ok {ι : List Addr} {H : Hp} {h : List O} {σ : L2.St} {x : Opd} {u : V} {k : List W → List O → List Addr → Hp → Prop} (r : Rel G h ι H) (hu : OpdR G H ι x u) (p : Post G Wx σ ι H (lstO h x) k) :
    ∃ q vs ws, u = .ref q ∧ H q = some (.lst vs) ∧ VRs G H ι ws vs ∧ k ws h ι H := by
  unfold lstO at p
  split at p
  · obtain ⟨D, vs, rfl, eD, nD, hr⟩ := hu
    exact ⟨D, vs, _, rfl, eD, hr, p.ok r⟩
  · cases (show VR G H ι _ u from hu) with
    | ref ha =>
      split at p
      · rename_i ws eo
        obtain ⟨vs, h1, h2⟩ := r.obj _ _ _ eo ha
        exact ⟨_, vs, _, rfl, h1, h2, p.ok r⟩
      · exact False.elim p
  · exact False.elim p
theorem e_slice {lo hi : Option Expr} {p2 : Pos} {ma : Lo → List O → R W} {ml mh : Lo → List O → R (Option Int)} (g : Gx G lvl c X) (ha : PE X a (tV G Wx ma)) (hl : PO X lo (tP G Wx ml)) (hh : PO X hi (tP G Wx mh)) :
    PE X (.Subscript a (.Slice lo hi none p2) pos) (tV G Wx fun ℓ h => (ma ℓ h).bind fun x h => (ml ℓ h).bind fun l h => (mh ℓ h).bind fun u h => match x with
    | .str z => chk (decide (z.length ≤ sizeLine)) (.ok (.str (cutS z l u)) h)
    | .tup ws => .ok (.tup (cutW ws l u)) h
    | x => (lsqO h (.inr x)).bind fun ws h => alloc (.lst (cutW ws l u)) h) := by
  refine PE.imp (pe_slice (sl_str.or (sl_tupA.or sl_list)) ha hl hh) fun σ H Q ⟨ι, hh, ℓ, r, lr, p⟩ => ?_
  refine ⟨ι, hh, ℓ, r, lr, p.bind.imp fun x h1 ι1 H1 s1 r1 p1 u hu => ?_⟩
  refine ⟨ι1, h1, ℓ, r1, lr.mono s1, p1.bind.imp fun l h2 ι2 H2 s2 r2 p2 => ?_⟩
  refine ⟨ι2, h2, ℓ, r2, (lr.mono s1).mono s2, p2.bind.imp fun k h3 ι3 H3 s3 r3 p3 => ?_⟩
  have hu2 := (hu.mono s2).mono s3
  rw [g.K]
  have lst : ∀ {x : W}, VR G H3 ι3 x u → Post G Wx σ ι3 H3 ((lsqO h3 (.inr x)).bind fun ws h => alloc (.lst (cutW ws l k)) h) (Wants Q G) → (∃ z, u = .str z ∧ z.length ≤ sizeLine ∧ Q (.str (cutS z l k)) H3) ∨ rSlA G.K u l k H3 Q ∨ rSlL G.K u l k H3 Q := by
    intro x hx q
    obtain ⟨q1, vs, ws, rfl, hs, hr, p4⟩ := lsqO_ok r3 (show OpdR G H3 ι3 (.inr x) u from hx) q.bind
    refine .inr (.inr ⟨q1, vs, rfl, hs, fun t ht => ?_⟩)
    have st : Step ι3 H3 ι3 (upd H3 t (.lst (cutV vs l k))) := Step.new ht
    exact post_alloc p4 (r3.new ht) ht (r3.fresh ht) st ⟨_, upd_same, VRs.mon mon_app ((hr.cut l k).mono st)⟩
  cases hu2 with
  | str z =>
    obtain ⟨cz, p3⟩ := Post.chk p3
    exact .inl ⟨z, rfl, of_decide_eq_true cz, Wants.str p3 r3⟩
  | @tup q vs ws hs hr =>
    refine .inr (.inl ⟨q, vs, rfl, hs, fun hw => ?_, fun hw t ht => ?_⟩)
    · have e : cutW ws l k = ws := by
        unfold cutW
        rw [hr.length, hw.1, hw.2, List.drop_zero, Nat.sub_zero, ← hr.length, List.take_length]
      have p3 : Post G Wx σ ι3 H3 (.ok (.tup (cutW ws l k)) h3) (Wants Q G) := p3
      rw [e] at p3
      exact p3.ok r3 _ (.tup hs hr)
    · have p3 : Post G Wx σ ι3 H3 (.ok (.tup (cutW ws l k)) h3) (Wants Q G) := p3
      exact p3 ι3 _ (Step.new ht) (r3.new ht) _ (.tup (.of upd_same) ((hr.cut l k).mono (Step.new ht)))
  | slst hs hr => exact lst (.slst hs hr) p3
  | ref ha => exact lst (.ref ha) p3
  | _ => exact False.elim p3
theorem e_lcut {lo hi : Option Expr} {p2 : Pos} {ml mh : Lo → List O → R (Option Int)} (g : Gx G lvl c X) (ha : OkE G Wx X sa a) (hl : PO X lo (tP G Wx ml)) (hh : PO X hi (tP G Wx mh)) :
    PE X (.Subscript a (.Slice lo hi none p2) pos) (tL G Wx fun ℓ h => (sa.opd ℓ h).bind fun x h => (ml ℓ h).bind fun l h => (mh ℓ h).bind fun u h => (lsqO h x).bind fun ws h => .ok (cutW ws l u) h) := by
  refine PE.imp (pe_slice sl_list ha.o hl hh) fun σ H Q ⟨ι, hh, ℓ, r, lr, p⟩ => ?_
  refine ⟨ι, hh, ℓ, r, lr, p.bind.imp fun x h1 ι1 H1 s1 r1 p1 u hu => ?_⟩
  refine ⟨ι1, h1, ℓ, r1, lr.mono s1, p1.bind.imp fun l h2 ι2 H2 s2 r2 p2 => ?_⟩
  refine ⟨ι2, h2, ℓ, r2, (lr.mono s1).mono s2, p2.bind.imp fun k h3 ι3 H3 s3 r3 p3 => ?_⟩
  have hu2 := (hu.mono s2).mono s3
  rw [g.K]
  obtain ⟨q, vs, ws, rfl, hs, hr, p4⟩ := lsqO_ok r3 hu2 p3.bind
  refine ⟨q, vs, rfl, hs, fun t ht => ?_⟩
  have s4 : Step ι3 H3 ι3 (upd H3 t (.lst (cutV vs l k))) := Step.new ht
  exact p4 ι3 _ s4 (r3.new ht) t _ (s1.back (s2.back (s3.back ht))) (r3.fresh ht) upd_same ((hr.cut l k).mono s4)
theorem VRs.flat {ι : List Addr} {H : Hp} {ws : List W} {vs : List V} (hr : VRs G H ι ws vs) : ∀ k : Nat, VRs G H ι (List.replicate k ws).flatten (List.replicate k vs).flatten
  | 0 => .nil
  | k + 1 => by
    rw [List.replicate_succ, List.replicate_succ, List.flatten_cons, List.flatten_cons]
    exact hr.append (VRs.flat hr k)
theorem e_lrep {mn : Lo → List O → R W} (ha : PE X a (tL G Wx sa.l)) (hb : PE X b (tV G Wx mn)) :
    PE X (.BinOp a .Mult b pos) (tL G Wx fun ℓ h => (sa.l ℓ h).bind fun ws h => (mn ℓ h).bind fun y h => match y with
    | .int k => chk (decide (-(2 ^ 63) ≤ k ∧ k < 2 ^ 63) && decide (ws.length * k.toNat ≤ sizeLine)) (.ok (List.replicate k.toNat ws).flatten h)
    | _ => .stuck) := by
  refine PE.imp (pe_op op_rep ha hb) fun σ H Q ⟨ι, hh, ℓ, r, lr, p⟩ => ?_
  refine ⟨ι, hh, ℓ, r, lr, p.bind.imp fun ws h1 ι1 H1 s1 r1 p1 D vs hD nD eD hr => ?_⟩
  refine ⟨ι1, h1, ℓ, r1, lr.mono s1, p1.bind.imp fun y h2 ι2 H2 s2 r2 p2 v hv => ?_⟩
  cases hv <;> first
    | exact False.elim p2
    | skip
  rename_i k
  obtain ⟨cz, p2⟩ := Post.chk p2
  rw [Bool.and_eq_true] at cz
  obtain ⟨⟨c1, c2⟩, c3⟩ : (-(2 ^ 63) ≤ k ∧ k < 2 ^ 63) ∧ ws.length * k.toNat ≤ sizeLine := ⟨of_decide_eq_true cz.1, of_decide_eq_true cz.2⟩
  have eD2 : H2 D = some (.lst vs) := s2.keep D _ eD nD
  refine ⟨D, k, vs, rfl, rfl, eD2, c1, c2, by rw [← hr.length]; exact c3, fun t ht => ?_⟩
  have s4 : Step ι2 H2 ι2 (upd H2 t (.lst (List.replicate k.toNat vs).flatten)) := Step.new ht
  exact p2 ι2 _ s4 (r2.new ht) t _ (s1.back (s2.back ht)) (r2.fresh ht) upd_same (((hr.mono s2).flat k.toNat).mono s4)
theorem e_lcat (g : Gx G lvl c X) (ha : OkE G Wx X sa a) (hb : OkE G Wx X sb b) :
    PE X (.BinOp a .Add b pos) (tL G Wx fun ℓ h => (sa.opd ℓ h).bind fun x h => (sb.opd ℓ h).bind fun y h => (lstO h x).bind fun xs h => (lstO h y).bind fun ys h => chk (decide (xs.length + ys.length ≤ sizeLine)) (.ok (xs ++ ys) h)) := by
  refine PE.imp (pe_op op_cat ha.o hb.o) fun σ H Q ⟨ι, hh, ℓ, r, lr, p⟩ => ?_
  refine ⟨ι, hh, ℓ, r, lr, p.bind.imp fun x h1 ι1 H1 s1 r1 p1 u hu => ?_⟩
  refine ⟨ι1, h1, ℓ, r1, lr.mono s1, p1.bind.imp fun y h2 ι2 H2 s2 r2 p2 v hv => ?_⟩
  obtain ⟨q, vs, ws, rfl, e1, hr1, p3⟩ := lstO_ok r2 (hu.mono s2) p2.bind
  obtain ⟨q2, vs2, ws2, rfl, e2, hr2, p4⟩ := lstO_ok r2 hv p3.bind
  obtain ⟨cz, p4⟩ := p4.chk
  refine ⟨q, q2, vs, vs2, rfl, rfl, e1, e2, by rw [← hr1.length, ← hr2.length]; exact of_decide_eq_true cz, fun t ht => ?_⟩
  have s4 : Step ι2 H2 ι2 (upd H2 t (.lst (vs ++ vs2))) := Step.new ht
  exact p4 ι2 _ s4 (r2.new ht) t _ (s1.back (s2.back ht)) (r2.fresh ht) upd_same ((hr1.append hr2).mono s4)
end
end MP
set_option maxRecDepth 100000
set_option maxHeartbeats 4000000
namespace MP
open PySem PySem.Spec PyProof.Rows L2
section
variable {G : Pg} {lvl : Nat} {c : Ctx} {X : Cx} {Wx : WX} {C : Cn} {a b d e : Expr} {es : List Expr} {pos p : Pos} {sa sb sc : Sm}

/-! ### calls of the text's own defs -/
theorem Post.reσ {α : Type} {σ : L2.St} {ι : List Addr} {H : Hp} {r : R α} {k : α → List O → List Addr → Hp → Prop} (q : Post G Wx σ ι H r k) : Post G (fun cls d _ H => Wx cls d σ H) [] ι H r k := by
  cases r with
  | ok a h' => exact q
  | exc x h' => exact q
  | stuck => exact q
/-- a call with values -/
theorem run_g (g : Gx G lvl c X) (tk : Takes X Wx) {fa : Addr} {fd : FuncData} {ps : List Str} {sp : Sp} (hb : Binds G.K fd ps []) (F : FnG G lvl fa fd ps sp)
    {pins : List (Addr × Obj)} {σ : L2.St} {H : Hp} {s : Shared} {Q : VK} {us : List Value} {vs : List V} (I : Inv X pins σ H s) (r : Vals vs us) (q : sp vs H Q (WE Wx σ)) :
    wpAny (model X.prog X.w) X.A (call (.ref fa) us) (EP X pins σ Q) X.xe s := by
  have hlen : us.length = ps.length := by rw [← r.length]; exact F.len _ _ _ _ q
  have kin : G.K.In s.heap := by have z := I.kIn; rw [g.K] at z; exact z
  have b := hb s us kin (by rw [List.append_nil]; exact hlen)
  rw [List.append_nil] at b
  have e0 : Env0 G.P G.w G.K G.mg G.base X.A X.stack s H := by
    have z := I.env0
    rw [g.prog, g.w, g.K, g.mg, g.base] at z
    exact z
  have run := F.run X.A X.stack s H ⟨us, []⟩ us vs Q (WE Wx σ) g.room g.gd e0 b r q
  rw [← g.prog, ← g.w] at run
  refine wpAny_call (codeAny_mono run fun res s' hq => ?_)
  cases res with
  | error er => exact passAt tk σ pins H s er s' I hq
  | ok fl =>
    cases fl with
    | ret u => exact I.after hq
    | next => exact False.elim hq
    | brk => exact False.elim hq
    | cont => exact False.elim hq
theorem call_fin {f : Str} {ps : List Str} (hlen : ∀ ws h, ws.length ≠ ps.length → C.call f ws h = .stuck) {σ : L2.St} {H : Hp} {Q : VK} {ι : List Addr} {h : List O} {ws : List W} {vs : List V} (r : Rel G h ι H) (hv : VRs G H ι ws vs)
    (q : Post G Wx σ ι H (C.call f ws h) (Wants Q G)) : spI G (C.call f) ps.length vs H Q (WE Wx σ) := by
  refine ⟨?_, ι, h, ws, r, hv, q.reσ⟩
  by_cases hl : ws.length = ps.length
  · rw [← hv.length]; exact hl
  · rw [hlen ws h hl] at q
    exact False.elim q
theorem e_call0 {f : Str} (F : Fc G C lvl c.fs) (g : Gx G lvl c X) (tk : Takes X Wx) (hf : f ∈ c.fs) (hgl : glB c f = true) (hd : debB f = true) :
    PE X (.Call (.Name f p) [] [] pos) (tV G Wx fun ℓ h => (R.ok [] h : R (List W)).bind fun ws h => C.call f ws h) := by
  obtain ⟨fa, fd, ps, hm, hk, hb, hF, hlen⟩ := F.call f hf
  have hm' : X.mg f = some (.ref fa) := by rw [g.mg]; exact hm
  have hk' : PySem.W.keepIn X.K (.ref fa) = true := by rw [g.K]; exact hk
  refine ⟨fun pins s σ H Q I ⟨ι, hh, ℓ, r, lr, q⟩ => ?_⟩
  refine wpAny_Call_Name_kw (ld_glob I (g.gl hgl) hm' ?_ (deb_of hd))
  have q : Post G Wx σ ι H (C.call f [] hh) (Wants Q G) := q
  exact PySem.W.callWith_K0 I.kIn hk' (run_g (us := []) g tk hb hF I .nil (call_fin hlen r .nil q))
theorem e_call {f : Str} {ms : Lo → List O → R (List W)} (F : Fc G C lvl c.fs) (g : Gx G lvl c X) (tk : Takes X Wx) (hf : f ∈ c.fs) (hgl : glB c f = true) (hd : debB f = true) (hst : (e :: es).all notStar = true) (ha : PA X (e :: es) (tA G Wx ms)) :
    PE X (.Call (.Name f p) (e :: es) [] pos) (tV G Wx fun ℓ h => (ms ℓ h).bind fun ws h => C.call f ws h) := by
  obtain ⟨fa, fd, ps, hm, hk, hb, hF, hlen⟩ := F.call f hf
  have hm' : X.mg f = some (.ref fa) := by rw [g.mg]; exact hm
  have hk' : PySem.W.keepIn X.K (.ref fa) = true := by rw [g.K]; exact hk
  refine ⟨fun pins s σ H Q I ⟨ι, hh, ℓ, r, lr, q⟩ => ?_⟩
  have q2 := Post.bind q
  rw [List.all_cons, Bool.and_eq_true] at hst
  refine wpAny_Call_Name_kw (ld_glob I (g.gl hgl) hm' ?_ (deb_of hd))
  refine PySem.W.callWith_K (h₀ := X.base) I.ok.mod.kin hk' (thn (ha.run pos pins s σ H (fun vs H1 => spI G (C.call f) ps.length vs H1 Q (WE Wx σ)) I ⟨ι, hh, ℓ, r, lr, q2.imp fun ws h1 ι1 H1 s1 r1 p1 vs hv => call_fin hlen r1 hv p1⟩) fun us s1 ⟨vs, H1, I1, rv, q1⟩ => ⟨I1.kIn, ?_⟩) (star_ok hst.1) (stars_ok hst.2)
  exact run_g g tk hb hF I1 rv q1

/-! ### built-in functions -/
theorem nm_blt (F : Fc G C lvl c.fs) (g : Gx G lvl c X) {f : Str} (h : f ∈ bltNames) : X.mg f = none := by rw [g.mg]; exact F.blt f h
/-- of one value -/
theorem k_abs (F : Fc G C lvl c.fs) (g : Gx G lvl c X) {m : Lo → List O → R W} (hgl : glB c "abs" = true) (hst : notStar a = true) (ha : PE X a (tV G Wx m)) :
    PE X (.Call (.Name "abs" p) [a] [] pos) (tV G Wx fun ℓ h => (m ℓ h).bind fun w h => bltV "abs" [w] h) := by
  refine PE.imp (pe_callB call_abs (g.gl hgl) (nm_blt F g (by decide)) (by decide +kernel) (a_one ha hst) (he := star_ok hst) (hpl := rfl)) fun σ H Q ⟨ι, hh, ℓ, r, lr, q⟩ => ?_
  refine ⟨ι, hh, ℓ, r, lr, q.bind.imp fun w h1 ι1 H1 s1 r1 p1 v hv => ?_⟩
  unfold bltV at p1
  rw [if_pos rfl] at p1
  cases hv <;> first
    | exact False.elim p1
    | exact ⟨_, rfl, Wants.int p1 r1⟩
/-- of two values -/
theorem k_max (F : Fc G C lvl c.fs) (g : Gx G lvl c X) {m n : Lo → List O → R W} (hgl : glB c "max" = true) (hst : notStar a = true) (hst2 : notStar b = true) (ha : PE X a (tV G Wx m)) (hb : PE X b (tV G Wx n)) :
    PE X (.Call (.Name "max" p) [a, b] [] pos) (tV G Wx fun ℓ h => (m ℓ h).bind fun x h => (n ℓ h).bind fun y h => (R.ok [] h : R (List W)).bind fun ws h => bltV "max" (x :: y :: ws) h) := by
  refine PE.imp (pe_callB (call_max2 g.calm) (g.gl hgl) (nm_blt F g (by decide)) (by decide +kernel) (pa_cons ha (pa_cons hb pa_nil (star_ok hst2)) (star_ok hst)) (he := star_ok hst) (hpl := stars_ok (es := [b]) (by rw [List.all_cons, hst2]; rfl))) fun σ H Q ⟨ι, hh, ℓ, r, lr, q⟩ => ?_
  refine ⟨ι, hh, ℓ, r, lr, q.bind.imp fun x h1 ι1 H1 s1 r1 p1 u hu => ?_⟩
  refine ⟨ι1, h1, ℓ, r1, lr.mono s1, p1.bind.imp fun y h2 ι2 H2 s2 r2 p2 v hv => ?_⟩
  have p2 : Post G Wx σ ι2 H2 (bltV "max" [x, y] h2) (Wants Q G) := p2
  unfold bltV at p2
  rw [if_neg (by decide), if_pos rfl] at p2
  cases hu <;> cases hv <;> first
    | exact False.elim p2
    | exact ⟨_, _, rfl, Wants.int p2 r2⟩
theorem k_min (F : Fc G C lvl c.fs) (g : Gx G lvl c X) {m n : Lo → List O → R W} (hgl : glB c "min" = true) (hst : notStar a = true) (hst2 : notStar b = true) (ha : PE X a (tV G Wx m)) (hb : PE X b (tV G Wx n)) :
    PE X (.Call (.Name "min" p) [a, b] [] pos) (tV G Wx fun ℓ h => (m ℓ h).bind fun x h => (n ℓ h).bind fun y h => (R.ok [] h : R (List W)).bind fun ws h => bltV "min" (x :: y :: ws) h) := by
  refine PE.imp (pe_callB (call_min2 g.calm) (g.gl hgl) (nm_blt F g (by decide)) (by decide +kernel) (pa_cons ha (pa_cons hb pa_nil (star_ok hst2)) (star_ok hst)) (he := star_ok hst) (hpl := stars_ok (es := [b]) (by rw [List.all_cons, hst2]; rfl))) fun σ H Q ⟨ι, hh, ℓ, r, lr, q⟩ => ?_
  refine ⟨ι, hh, ℓ, r, lr, q.bind.imp fun x h1 ι1 H1 s1 r1 p1 u hu => ?_⟩
  refine ⟨ι1, h1, ℓ, r1, lr.mono s1, p1.bind.imp fun y h2 ι2 H2 s2 r2 p2 v hv => ?_⟩
  have p2 : Post G Wx σ ι2 H2 (bltV "min" [x, y] h2) (Wants Q G) := p2
  unfold bltV at p2
  rw [if_neg (by decide), if_neg (by decide), if_pos rfl] at p2
  cases hu <;> cases hv <;> first
    | exact False.elim p2
    | exact ⟨_, _, rfl, Wants.int p2 r2⟩
theorem k_len (F : Fc G C lvl c.fs) (g : Gx G lvl c X) (hgl : glB c "len" = true) (hst : notStar a = true) (ha : OkE G Wx X sa a) :
    PE X (.Call (.Name "len" p) [a] [] pos) (tV G Wx fun ℓ h => (sa.opd ℓ h).bind fun x h => match x with
      | .inl ws => .ok (.int ws.length) h
      | .inr w => lenW w h) := by
  refine PE.imp (pe_callB call_len (g.gl hgl) (nm_blt F g (by decide)) (by decide +kernel) (a_one ha.o hst) (he := star_ok hst) (hpl := rfl)) fun σ H Q ⟨ι, hh, ℓ, r, lr, q⟩ => ?_
  refine ⟨ι, hh, ℓ, r, lr, q.bind.imp fun x h1 ι1 H1 s1 r1 p1 v hv => ?_⟩
  rw [g.K]
  have seq : ∀ {w : W}, VR G H1 ι1 w v → Post G Wx σ ι1 H1 ((seqR h1 w).bind fun ws h => .ok (.int ws.length) h) (Wants Q G) → ∃ (x : V) (n : Nat), [v] = [x] ∧ LenV G.K x H1 n ∧ Q (.int n) H1 := by
    intro w hw p2
    unfold seqR at p2
    split at p2
    · rename_i ws es
      obtain ⟨q, vs, rfl, hsq, hr⟩ := seq_of r1 hw es
      have z := Wants.int p2 r1
      rw [hr.length] at z
      refine ⟨_, vs.length, rfl, ?_, z⟩
      rcases hsq with hsq | hsq
      · exact .inl ⟨vs, hsq, rfl⟩
      · exact .inr ⟨vs, hsq, rfl⟩
    · exact False.elim p2
  cases x with
  | inl ws =>
    obtain ⟨D, vs, rfl, eD, nD, hr⟩ := hv
    have z := Wants.int p1 r1
    rw [hr.length] at z
    exact ⟨_, vs.length, rfl, .inl ⟨vs, .of eD, rfl⟩, z⟩
  | inr w =>
    have hw : VR G H1 ι1 w v := hv
    have p1 : Post G Wx σ ι1 H1 (lenW w h1) (Wants Q G) := p1
    cases hw with
    | str x =>
      obtain ⟨cz, p1⟩ := Post.chk p1
      exact ⟨_, x.length, rfl, ⟨of_decide_eq_true cz, rfl⟩, Wants.int p1 r1⟩
    | non => exact False.elim p1
    | bl b => exact False.elim p1
    | int i => exact False.elim p1
    | tup hs hr => exact seq (.tup hs hr) p1
    | slst hs hr => exact seq (.slst hs hr) p1
    | ref hq => exact seq (.ref hq) p1

/-! ### of a list or a tuple -/
theorem unInts_ok : ∀ {ws : List W} {ns : List Int}, unInts ws = some ns → ws = ns.map W.int
  | [], _, h => by cases h; rfl
  | w :: ws, ns, h => by
    cases w <;> first
      | cases h
      | skip
    rename_i i
    rw [unInts, Option.map_eq_some_iff] at h
    obtain ⟨ms, h1, rfl⟩ := h
    rw [unInts_ok h1, List.map_cons]
theorem unBls_ok : ∀ {ws : List W} {ns : List Bool}, unBls ws = some ns → ws = ns.map W.bl
  | [], _, h => by cases h; rfl
  | w :: ws, ns, h => by
    cases w <;> first
      | cases h
      | skip
    rename_i i
    rw [unBls, Option.map_eq_some_iff] at h
    obtain ⟨ms, h1, rfl⟩ := h
    rw [unBls_ok h1, List.map_cons]
theorem unStrs_ok : ∀ {ws : List W} {ns : List Str}, unStrs ws = some ns → ws = ns.map W.str
  | [], _, h => by cases h; rfl
  | w :: ws, ns, h => by
    cases w <;> first
      | cases h
      | skip
    rename_i i
    rw [unStrs, Option.map_eq_some_iff] at h
    obtain ⟨ms, h1, rfl⟩ := h
    rw [unStrs_ok h1, List.map_cons]
section
variable {ι : List Addr} {H : Hp}
theorem VRs.ints' : ∀ {ns : List Int} {vs : List V}, VRs G H ι (ns.map W.int) vs → vs = ns.map V.int
  | [], _, h => by cases h; rfl
  | n :: ns, _, h => by
    cases h with
    | cons h1 h2 =>
      cases h1
      rw [VRs.ints' h2, List.map_cons]
theorem VRs.bls' : ∀ {ns : List Bool} {vs : List V}, VRs G H ι (ns.map W.bl) vs → vs = ns.map V.bl
  | [], _, h => by cases h; rfl
  | n :: ns, _, h => by
    cases h with
    | cons h1 h2 =>
      cases h1
      rw [VRs.bls' h2, List.map_cons]
theorem VRs.strs' : ∀ {ns : List Str} {vs : List V}, VRs G H ι (ns.map W.str) vs → vs = ns.map V.str
  | [], _, h => by cases h; rfl
  | n :: ns, _, h => by
    cases h with
    | cons h1 h2 =>
      cases h1
      rw [VRs.strs' h2, List.map_cons]
end

theorem k_all (F : Fc G C lvl c.fs) (g : Gx G lvl c X) (hgl : glB c "all" = true) (hst : notStar a = true) (ha : OkE G Wx X sa a) :
    PE X (.Call (.Name "all" p) [a] [] pos) (tV G Wx fun ℓ h => (sa.opd ℓ h).bind fun x h => (lsqO h x).bind fun ws h => bltL "all" ws h) := by
  refine PE.imp (pe_callB (cr_all g.calm) (g.gl hgl) (nm_blt F g (by decide)) (by decide +kernel) (a_one ha.o hst) (he := star_ok hst) (hpl := rfl)) fun σ H Q ⟨ι, hh, ℓ, r, lr, q⟩ => ?_
  refine ⟨ι, hh, ℓ, r, lr, q.bind.imp fun x h1 ι1 H1 s1 r1 p1 v hv => ?_⟩
  obtain ⟨t, vs, ws, rfl, hs, hr, p2⟩ := lsqO_ok r1 hv p1.bind
  rw [g.K]
  unfold bltL at p2
  rw [if_pos rfl] at p2
  split at p2
  · rename_i bs eb
    have e := unBls_ok eb
    subst e
    have e := hr.bls'
    subst e
    exact ⟨t, bs, rfl, hs, Wants.bl p2 r1⟩
  · exact False.elim p2
theorem k_any (F : Fc G C lvl c.fs) (g : Gx G lvl c X) (hgl : glB c "any" = true) (hst : notStar a = true) (ha : OkE G Wx X sa a) :
    PE X (.Call (.Name "any" p) [a] [] pos) (tV G Wx fun ℓ h => (sa.opd ℓ h).bind fun x h => (lsqO h x).bind fun ws h => bltL "any" ws h) := by
  refine PE.imp (pe_callB (cr_any g.calm) (g.gl hgl) (nm_blt F g (by decide)) (by decide +kernel) (a_one ha.o hst) (he := star_ok hst) (hpl := rfl)) fun σ H Q ⟨ι, hh, ℓ, r, lr, q⟩ => ?_
  refine ⟨ι, hh, ℓ, r, lr, q.bind.imp fun x h1 ι1 H1 s1 r1 p1 v hv => ?_⟩
  obtain ⟨t, vs, ws, rfl, hs, hr, p2⟩ := lsqO_ok r1 hv p1.bind
  rw [g.K]
  unfold bltL at p2
  rw [if_neg (by decide), if_pos rfl] at p2
  split at p2
  · rename_i bs eb
    have e := unBls_ok eb
    subst e
    have e := hr.bls'
    subst e
    exact ⟨t, bs, rfl, hs, Wants.bl p2 r1⟩
  · exact False.elim p2
theorem k_sum (F : Fc G C lvl c.fs) (g : Gx G lvl c X) (hgl : glB c "sum" = true) (hst : notStar a = true) (ha : OkE G Wx X sa a) :
    PE X (.Call (.Name "sum" p) [a] [] pos) (tV G Wx fun ℓ h => (sa.opd ℓ h).bind fun x h => (lsqO h x).bind fun ws h => bltL "sum" ws h) := by
  refine PE.imp (pe_callB (cr_sum g.calm) (g.gl hgl) (nm_blt F g (by decide)) (by decide +kernel) (a_one ha.o hst) (he := star_ok hst) (hpl := rfl)) fun σ H Q ⟨ι, hh, ℓ, r, lr, q⟩ => ?_
  refine ⟨ι, hh, ℓ, r, lr, q.bind.imp fun x h1 ι1 H1 s1 r1 p1 v hv => ?_⟩
  obtain ⟨t, vs, ws, rfl, hs, hr, p2⟩ := lsqO_ok r1 hv p1.bind
  rw [g.K]
  unfold bltL at p2
  rw [if_neg (by decide), if_neg (by decide), if_pos rfl] at p2
  split at p2
  · rename_i bs eb
    have e := unInts_ok eb
    subst e
    have e := hr.ints'
    subst e
    exact ⟨t, bs, rfl, hs, Wants.int p2 r1⟩
  · exact False.elim p2
/-- other names without a meaning here -/
theorem k_no (F : Fc G C lvl c.fs) (g : Gx G lvl c X) {f : Str} (hgl : glB c f = true) (hst : notStar a = true) (ha : OkE G Wx X sa a) (h : ¬ (f = "all" ∨ f = "any" ∨ f = "sum")) : ∀ ws h, bltL f ws h = .stuck := by
  intro ws hh
  unfold bltL
  rw [if_neg fun z => h (.inl z), if_neg fun z => h (.inr (.inl z)), if_neg fun z => h (.inr (.inr z))]
theorem k_tuple (F : Fc G C lvl c.fs) (g : Gx G lvl c X) (hgl : glB c "tuple" = true) (hst : notStar a = true) (ha : OkE G Wx X sa a) :
    PE X (.Call (.Name "tuple" p) [a] [] pos) (tV G Wx fun ℓ h => (sa.l ℓ h).bind fun ws h => .ok (.tup ws) h) := by
  refine PE.imp (pe_callTy call_tuple_of (g.gl hgl) (nm_blt F g (by decide)) (by decide +kernel) (a_one ha.s hst) (he := star_ok hst) (hpl := rfl)) fun σ H Q ⟨ι, hh, ℓ, r, lr, q⟩ => ?_
  refine ⟨ι, hh, ℓ, r, lr, q.bind.imp fun ws h1 ι1 H1 s1 r1 p1 t vs hs hr => ?_⟩
  rw [g.K]
  refine ⟨t, vs, rfl, ?_⟩
  rcases hs with hs | hs
  · exact .inl ⟨hs, fun l hl => p1 ι1 _ (Step.new hl) (r1.new hl) _ (.tup (.of upd_same) (hr.mono (Step.new hl)))⟩
  · exact .inr ⟨hs, p1.ok r1 _ (.tup hs hr)⟩
theorem k_list (F : Fc G C lvl c.fs) (g : Gx G lvl c X) (hgl : glB c "list" = true) (hst : notStar a = true) (ha : OkE G Wx X sa a) :
    PE X (.Call (.Name "list" p) [a] [] pos) (tL G Wx fun ℓ h => sa.l ℓ h) := by
  refine PE.imp (pe_callTy call_list_of (g.gl hgl) (nm_blt F g (by decide)) (by decide +kernel) (a_one ha.s hst) (he := star_ok hst) (hpl := rfl)) fun σ H Q ⟨ι, hh, ℓ, r, lr, q⟩ => ?_
  refine ⟨ι, hh, ℓ, r, lr, ?_⟩
  have q : Post G Wx σ ι H (sa.l ℓ hh) (fun ws h' ι' H' => ∀ (D : Addr) (vs : List V), H D = none → D ∉ ι' → H' D = some (.lst vs) → VRs G H' ι' ws vs → Q (.ref D) H') := q
  revert q
  cases sa.l ℓ hh with
  | stuck => exact fun q => q
  | exc x h' => exact fun q => q
  | ok ws h' =>
    intro q ι' H' s q2 t vs hs hr
    rw [g.K]
    refine ⟨t, vs, rfl, hs, fun l hl => ?_⟩
    have s2 : Step ι' H' ι' (upd H' l (.lst vs)) := Step.new hl
    exact q ι' _ (s.trans s2) (q2.new hl) l vs (s.back hl) (q2.fresh hl) upd_same (hr.mono s2)

/-! ### repr -/
theorem toD_small {h : List O} : ∀ (n : Nat) {w : W} {d : PyData}, toD h n w = some d → d.depth ≤ n ∧ d.hasDict = false := by
  intro n
  induction n with
  | zero =>
    intro w d e
    cases w <;> simp [toD] at e <;> subst e <;> simp [PyData.depth, PyData.hasDict]
  | succ n ih =>
    intro w d e
    have all : ∀ {ws : List W} {ds : List PyData}, ws.mapM (toD h n) = some ds → PyData.depthAll ds ≤ n ∧ PyData.hasDictAll ds = false := by
      intro ws
      induction ws with
      | nil =>
        intro ds e
        simp at e
        subst e
        simp [PyData.depthAll, PyData.hasDictAll]
      | cons w ws ih2 =>
        intro ds e
        simp only [List.mapM_cons, Option.pure_def, Option.bind_eq_bind, Option.bind_eq_some_iff] at e
        obtain ⟨d, e1, ds', e2, e3⟩ := e
        cases e3
        obtain ⟨a1, a2⟩ := ih e1
        obtain ⟨b1, b2⟩ := ih2 e2
        simp only [PyData.depthAll, PyData.hasDictAll, a2, b2]
        exact ⟨by omega, rfl⟩
    cases w with
    | tup ws =>
      rw [toD, Option.map_eq_some_iff] at e
      obtain ⟨ds, e1, rfl⟩ := e
      obtain ⟨a1, a2⟩ := all e1
      simp only [PyData.depth, PyData.hasDict]
      exact ⟨by omega, a2⟩
    | slst ws =>
      rw [toD, Option.map_eq_some_iff] at e
      obtain ⟨ds, e1, rfl⟩ := e
      obtain ⟨a1, a2⟩ := all e1
      simp only [PyData.depth, PyData.hasDict]
      exact ⟨by omega, a2⟩
    | ref i =>
      rw [toD] at e
      split at e
      · rw [Option.map_eq_some_iff] at e
        obtain ⟨ds, e1, rfl⟩ := e
        obtain ⟨a1, a2⟩ := all e1
        simp only [PyData.depth, PyData.hasDict]
        exact ⟨by omega, a2⟩
      · cases e
    | non => simp [toD] at e; subst e; simp [PyData.depth, PyData.hasDict]
    | bl b => simp [toD] at e; subst e; simp [PyData.depth, PyData.hasDict]
    | int i => simp [toD] at e; subst e; simp [PyData.depth, PyData.hasDict]
    | str x => simp [toD] at e; subst e; simp [PyData.depth, PyData.hasDict]
theorem datO_small {h : List O} {o : Opd} {d : PyData} (e : datO h o = some d) : d.depth ≤ dDepth + 1 ∧ d.hasDict = false := by
  cases o with
  | inr w =>
    obtain ⟨a1, a2⟩ := toD_small dDepth e
    exact ⟨by omega, a2⟩
  | inl ws =>
    have e2 : toD [.lst ws] (dDepth + 1) (.slst ws) = (ws.mapM (toD [.lst ws] dDepth)).map .list := by rw [toD]
    unfold datO at e
    rw [Option.map_eq_some_iff] at e
    obtain ⟨ds, e1, rfl⟩ := e
    have key : toD h (dDepth + 1) (.slst ws) = some (.list ds) := by rw [toD, e1]; rfl
    exact toD_small (dDepth + 1) key
/-- repr of data -/
theorem call_reprD {K : PySem.W.Frag} (hK : X.K = K) (hg : X.A.guards = some []) (hu : X.A.units + 64 < cLine) : CallR X (.builtin "repr") (fun xs H Q => ∃ v d, xs = [v] ∧ Dp K H v d ∧ d.showable = true ∧ d.shown.length ≤ sizeLine ∧ d.depth ≤ 60 ∧ d.hasDict = false ∧ Q (.str d.shown) H) := by
  intro pins s σ H xs us Q I r h
  obtain ⟨v, d, rfl, hd, h1, h2, h3, h4, q⟩ := h
  rw [← hK] at hd
  obtain ⟨u, rfl, ru⟩ := vals1 r
  obtain ⟨as, rd⟩ := Dp.reads I d v u hd ru
  have fin : ∀ (h' : Heap) (k : Tok) (tk : Nat), (∀ b o, s.heap.get? b = some o → h'.get? b = some o) → EP X pins σ Q (.str d.shown k) { s with heap := h', toks := tk } := fun h' k tk hk =>
    ⟨.str d.shown, H, I.kept (t' := tk) hk, ⟨k, rfl⟩, q⟩
  cases hd with
  | non =>
    cases (show u = Value.none from ru)
    have z := fin s.heap s.toks (s.toks + 1) fun _ _ e => e
    simp only [PyData.shown] at z
    exact PySem.P.repr_of_none z
  | bl b =>
    cases (show u = Value.bool b from ru)
    have z := fin s.heap s.toks (s.toks + 1) fun _ _ e => e
    simp only [PyData.shown] at z
    exact PySem.P.repr_of_bool z
  | int i =>
    obtain ⟨t, rfl⟩ := ru
    have z := fin s.heap s.toks (s.toks + 1) fun _ _ e => e
    simp only [PyData.shown] at z
    exact PySem.P.repr_of_int (by simpa [PyData.showable] using h1) z
  | str x =>
    obtain ⟨t, rfl⟩ := ru
    have z := fin s.heap s.toks (s.toks + 1) fun _ _ e => e
    simp only [PyData.shown] at z
    exact PySem.P.repr_of_str z (by simpa only [PyData.shown] using h2)
  | lst hs ha =>
    rename_i q' xs ds
    cases (show u = Value.ref q' from ru)
    exact repr_of_reads' rd h1 (PyData.noDict_hsm h4) hg (by omega) (fun _ _ e => e) (fun h' k tk hk => fin h' k tk hk) h2
  | tup hs ha =>
    rename_i q' xs ds
    cases (show u = Value.ref q' from ru)
    exact repr_of_reads' rd h1 (PyData.noDict_hsm h4) hg (by omega) (fun _ _ e => e) (fun h' k tk hk => fin h' k tk hk) h2
theorem k_repr (F : Fc G C lvl c.fs) (g : Gx G lvl c X) (hgl : glB c "repr" = true) (hst : notStar a = true) (ha : OkE G Wx X sa a) :
    PE X (.Call (.Name "repr" p) [a] [] pos) (tV G Wx fun ℓ h => (sa.opd ℓ h).bind fun x h => reprO h x) := by
  refine PE.imp (pe_callB (call_reprD g.K g.gd g.hu) (g.gl hgl) (nm_blt F g (by decide)) (by decide +kernel) (a_one ha.o hst) (he := star_ok hst) (hpl := rfl)) fun σ H Q ⟨ι, hh, ℓ, r, lr, q⟩ => ?_
  refine ⟨ι, hh, ℓ, r, lr, q.bind.imp fun x h1 ι1 H1 s1 r1 p1 v hv => ?_⟩
  unfold reprO at p1
  split at p1
  · rename_i dd ed
    obtain ⟨cz, p1⟩ := p1.chk
    rw [Bool.and_eq_true] at cz
    obtain ⟨a1, a2⟩ := datO_small ed
    exact ⟨v, dd, rfl, dp_opd r1 hv ed, cz.1, of_decide_eq_true cz.2, by simp only [dDepth] at a1; omega, a2, Wants.str p1 r1⟩
  · exact False.elim p1
end
end MP
set_option maxRecDepth 100000
set_option maxHeartbeats 4000000
namespace MP
open PySem PySem.Spec PyProof.Rows L2
section
variable {G : Pg} {lvl : Nat} {c : Ctx} {X : Cx} {Wx : WX} {C : Cn} {a b d e : Expr} {es : List Expr} {pos p p2 apos : Pos} {sa sb sc : Sm}

/-! ### isinstance, of built-in types -/
theorem ty_of {ι : List Addr} {H : Hp} {h : List O} {w : W} {v : V} {t : String} (r : Rel G h ι H) (hv : VR G H ι w v) (e : wType w h = some t) : TyX G.K H v (.type t) ∧ t ∈ ["NoneType", "bool", "int", "str", "tuple", "list", "dict"] := by
  cases hv with
  | non => cases e; exact ⟨.base .non, by decide⟩
  | bl b => cases e; exact ⟨.base (.bl b), by decide⟩
  | int i => cases e; exact ⟨.base (.int i), by decide⟩
  | str x => cases e; exact ⟨.base (.str x), by decide⟩
  | tup hs hr =>
    cases e
    refine ⟨?_, by decide⟩
    rcases hs with (hs | ⟨o, hs⟩) | ⟨o, its, n, h1, h2, _⟩
    · exact .base (.tup hs)
    · exact .fTuple hs
    · exact .kTuple h1 h2
  | slst hs hr =>
    cases e
    refine ⟨?_, by decide⟩
    rcases hs with ⟨o, hs⟩ | ⟨o, its, n, h1, h2, _⟩
    · exact .base (.frz hs)
    · exact .kList h1 h2
  | ref ha =>
    dsimp only [wType] at e
    split at e
    · cases e
      obtain ⟨vs, h1, _⟩ := r.obj _ _ _ (by assumption) ha
      exact ⟨.base (.lst h1), by decide⟩
    · cases e
      obtain ⟨vs, h1, _⟩ := r.obj _ _ _ (by assumption) ha
      exact ⟨.base (.dK h1), by decide⟩
    · cases e
theorem kit7 : ∀ t ∈ ["NoneType", "bool", "int", "str", "tuple", "list", "dict"], ∀ T ∈ tyNames, kitB t T = some (isiB t T) := by decide +kernel
theorem boot7 : ∀ T ∈ tyNames, bootBuiltins (Str.ofString T) = some (.type T) ∧ Str.ofString T ≠ "__name__" ∧ (Str.ofString T == ("__debug__" : Str)) = false ∧ Str.ofString T ∈ bltNames := by decide +kernel
theorem e_tyName {T : String} (F : Fc G C lvl c.fs) (g : Gx G lvl c X) (hT : T ∈ tyNames) (hgl : glB c T = true) : PE X (.Name T pos) (tC (.ty T)) := by
  obtain ⟨h1, h2, h3, h4⟩ := boot7 T hT
  exact pe_bltn (g.gl hgl) (nm_blt F g h4) h1 rfl h2 h3
theorem isiW_one {ι : List Addr} {H : Hp} {h : List O} {w : W} {v : V} {T : String} {σ : L2.St} {Q : VK} (hT : T ∈ tyNames) (r : Rel G h ι H) (hv : VR G H ι w v) (q : Post G Wx σ ι H (isiW [T] w h) (Wants Q G)) : rIsi G.K [v, .ty T] H Q := by
  unfold isiW at q
  split at q
  · rename_i t et
    obtain ⟨h1, h2⟩ := ty_of r hv et
    have q2 := Wants.bl q r
    rw [List.any_cons, List.any_nil, Bool.or_false] at q2
    exact ⟨v, _, _, _, _, rfl, .ty T, h1, kit_ty (kit7 t h2 T hT), q2⟩
  · exact False.elim q
theorem k_isi1 {T : String} {m : Lo → List O → R W} (F : Fc G C lvl c.fs) (g : Gx G lvl c X) (hgl : glB c "isinstance" = true) (hst : notStar a = true) (ha : PE X a (tV G Wx m)) (hT : T ∈ tyNames) (hglT : glB c T = true) :
    PE X (.Call (.Name "isinstance" p) [a, .Name T p2] [] pos) (tV G Wx fun ℓ h => (m ℓ h).bind fun w h => isiW [T] w h) := by
  refine PE.imp (pe_callB call_isi (g.gl hgl) (nm_blt F g (by decide)) (by decide +kernel) (pa_cons ha (pa_cons (e_tyName F g hT hglT) pa_nil (by rfl)) (star_ok hst)) (he := star_ok hst) (hpl := by rfl)) fun σ H Q ⟨ι, hh, ℓ, r, lr, q⟩ => ?_
  refine ⟨ι, hh, ℓ, r, lr, q.bind.imp fun w h1 ι1 H1 s1 r1 p1 v hv => ?_⟩
  rw [g.K]
  exact isiW_one hT r1 hv p1
theorem kitAny7 {K : PySem.W.Frag} {t : String} (ht : t ∈ ["NoneType", "bool", "int", "str", "tuple", "list", "dict"]) : ∀ {Ts : List String}, (∀ T ∈ Ts, T ∈ tyNames) → PySem.W.kitAny K (.type t) (Ts.map Value.type) = some (Ts.any fun T => isiB t T)
  | [], _ => rfl
  | T :: Ts, h => by
    rw [List.map_cons, List.any_cons]
    have ih := kitAny7 (K := K) ht (Ts := Ts) fun x hx => h x (List.mem_cons_of_mem _ hx)
    refine kitAny_cons (kit_ty (kit7 t ht T (h T List.mem_cons_self))) (fun e => ?_) fun e => ?_
    · rw [ih, e, Bool.false_or]
    · rw [e, Bool.true_or]
theorem clsAll : ∀ (Ts : List String), Paired ClsV (Ts.map V.ty) (Ts.map Value.type)
  | [] => .nil
  | T :: Ts => .cons (.ty T) (clsAll Ts)
/-- several type names as a tuple's items -/
def tyExprs : List String → List Pos → List Expr
  | T :: Ts, q :: qs => .Name T q :: tyExprs Ts qs
  | _, _ => []
theorem pa_tys {Ts : List String} (F : Fc G C lvl c.fs) (g : Gx G lvl c X) : ∀ {qs : List Pos}, Ts.length = qs.length → (∀ T ∈ Ts, T ∈ tyNames ∧ glB c T = true) → PA X (tyExprs Ts qs) (fun _ H Q => Q (Ts.map V.ty) H) := by
  induction Ts with
  | nil =>
    intro qs hl h
    cases qs <;> exact PA.imp pa_nil fun σ H Q q => q
  | cons T Ts ih =>
    intro qs hl h
    cases qs with
    | nil => cases hl
    | cons q qs =>
      obtain ⟨h1, h2⟩ := h T List.mem_cons_self
      exact PA.imp (pa_cons (e_tyName F g h1 h2) (ih (by simpa using hl) fun x hx => h x (List.mem_cons_of_mem _ hx)) (by rfl)) fun σ H Q q => q
theorem k_isiT {Ts : List String} {qs : List Pos} {k : Nat} {m : Lo → List O → R W} (F : Fc G C lvl c.fs) (g : Gx G lvl c X) (hgl : glB c "isinstance" = true) (hst : notStar a = true) (ha : PE X a (tV G Wx m)) (hl : Ts.length = qs.length) (hn : Ts.length ≤ sizeLine)
    (hT : ∀ T ∈ Ts, T ∈ tyNames ∧ glB c T = true) :
    PE X (.Call (.Name "isinstance" p) [a, .Tuple (tyExprs Ts qs) k p2] [] pos) (tV G Wx fun ℓ h => (m ℓ h).bind fun w h => isiW Ts w h) := by
  refine PE.imp (pe_callB call_isiT (g.gl hgl) (nm_blt F g (by decide)) (by decide +kernel) (pa_cons ha (pa_cons (pe_tup (pa_tys F g hl hT)) pa_nil (by rfl)) (star_ok hst)) (he := star_ok hst) (hpl := by rfl)) fun σ H Q ⟨ι, hh, ℓ, r, lr, q⟩ => ?_
  refine ⟨ι, hh, ℓ, r, lr, q.bind.imp fun w h1 ι1 H1 s1 r1 p1 v hv => ?_⟩
  refine ⟨by rw [List.length_map]; exact hn, fun t ht => ?_⟩
  rw [g.K]
  have s2 : Step ι1 H1 ι1 (upd H1 t (.tup (Ts.map V.ty))) := Step.new ht
  have r2 := r1.new (o := .tup (Ts.map V.ty)) ht
  have hv2 := hv.mono s2
  have p2 := p1.later s2
  unfold isiW at p2
  split at p2
  · rename_i tn et
    obtain ⟨h2, h3⟩ := ty_of r2 hv2 et
    exact ⟨v, t, _, _, _, _, rfl, upd_same, clsAll Ts, h2, kitAny7 h3 fun T h => (hT T h).1, Wants.bl p2 r2⟩
  · exact False.elim p2

/-! ### displays of dicts -/
theorem key_of {ι : List Addr} {H : Hp} {w : W} {v : V} {k : Key} (hv : VR G H ι w v) (e : keyW w = some k) : v = kV k := by
  cases hv <;> cases e <;> rfl
theorem FR.any {κ : Type} {ι : List Addr} {H : Hp} {f : κ → Bool} : ∀ {ws : List (κ × W)} {vs : List (κ × V)}, FR G H ι ws vs → (ws.any fun kv => f kv.1) = (vs.any fun kv => f kv.1)
  | _, _, .nil => rfl
  | _, _, .cons _ t => by rw [List.any_cons, List.any_cons, FR.any t]
theorem FR.append {κ : Type} {ι : List Addr} {H : Hp} : ∀ {ws ws' : List (κ × W)} {vs vs' : List (κ × V)}, FR G H ι ws vs → FR G H ι ws' vs' → FR G H ι (ws ++ ws') (vs ++ vs')
  | _, _, _, _, .nil, q => q
  | _, _, _, _, .cons r t, q => .cons r (FR.append t q)
theorem FR.length {κ : Type} {ι : List Addr} {H : Hp} : ∀ {ws : List (κ × W)} {vs : List (κ × V)}, FR G H ι ws vs → ws.length = vs.length
  | _, _, .nil => rfl
  | _, _, .cons r t => by rw [List.length_cons, List.length_cons, FR.length t]
theorem FR.upd {ι : List Addr} {H : Hp} {k : Key} {w : W} {v : V} (q : VR G H ι w v) : ∀ {ws : List (Key × W)} {vs : List (Key × V)}, FR G H ι ws vs → FR G H ι (ws.map (fun kv => if kv.1 = k then (kv.1, w) else kv)) (vs.map (fun kv => if kv.1 = k then (kv.1, v) else kv))
  | _, _, .nil => .nil
  | _, _, .cons (x := x) h t => by
    rw [List.map_cons, List.map_cons]
    by_cases hx : x = k
    · dsimp only; rw [if_pos hx, if_pos hx]; exact .cons q (FR.upd q t)
    · dsimp only; rw [if_neg hx, if_neg hx]; exact .cons h (FR.upd q t)
theorem FR.put {ι : List Addr} {H : Hp} {ws : List (Key × W)} {vs : List (Key × V)} {k : Key} {w : W} {v : V} (r : FR G H ι ws vs) (q : VR G H ι w v) : FR G H ι (putW ws k w) (putK vs k v) := by
  unfold putW putK
  rw [FR.any (f := fun x => decide (x = k)) r]
  split
  · exact FR.upd q r
  · exact r.append (.cons q .nil)
theorem FR.merge {ι : List Addr} {H : Hp} : ∀ {more : List (Key × W)} {vmore : List (Key × V)} {ws : List (Key × W)} {vs : List (Key × V)}, FR G H ι more vmore → FR G H ι ws vs → FR G H ι (mergeW ws more) (mergeK vs vmore)
  | _, _, _, _, .nil, q => q
  | _ :: more, _ :: vmore, ws, vs, .cons (x := x) (w := w) (v := v) r t, q => by
    show FR G H ι (mergeW (putW ws x w) more) (mergeK (putK vs x v) vmore)
    exact FR.merge t (q.put r)
/-- the pairs of a display -/
def tD (G : Pg) (Wx : WX) (m : Lo → List O → R (List (Key × W))) : L2.St → Hp → (List (V × V) → Hp → Prop) → Prop := fun σ H Q => ∃ ι h ℓ, Rel G h ι H ∧ LR G H ι ℓ σ ∧ Post G Wx σ ι H (m ℓ h) fun ws _ ι' H' => ∀ kvs, FR G H' ι' ws kvs → Q (kvs.map fun kv => (kV kv.1, kv.2)) H'
structure PD (X : Cx) (pos : Pos) (keys : List (Option Expr)) (values : List Expr) (t : L2.St → Hp → (List (V × V) → Hp → Prop) → Prop) : Prop where
  run : ∃ trs, PPs X pos keys values trs ∧ ∀ σ H Q, t σ H Q → tPairs trs σ H Q
theorem d_nil : PD X pos [] [] (tD G Wx fun _ h => .ok [] h) := ⟨[], pps_nil, fun σ H Q ⟨ι, hh, ℓ, r, lr, p⟩ => p.ok r [] .nil⟩
theorem d_cons {ks : List (Option Expr)} {vs : List Expr} {mk mv : Lo → List O → R W} {mr : Lo → List O → R (List (Key × W))} (hk : PE X a (tV G Wx mk)) (hv : PE X b (tV G Wx mv)) (hr : PD X pos ks vs (tD G Wx mr)) :
    PD X pos (some a :: ks) (b :: vs) (tD G Wx fun ℓ h => (mk ℓ h).bind fun x h => (mv ℓ h).bind fun y h => match keyW x with
    | some k => (mr ℓ h).bind fun kvs h => .ok ((k, y) :: kvs) h
    | none => .stuck) := by
  obtain ⟨trs, h1, h2⟩ := hr
  refine ⟨_, pps_cons hk hv h1, fun σ H Q ⟨ι, hh, ℓ, r, lr, p⟩ => ?_⟩
  refine ⟨ι, hh, ℓ, r, lr, p.bind.imp fun x h1 ι1 H1 s1 r1 p1 u hu => ?_⟩
  refine ⟨ι1, h1, ℓ, r1, lr.mono s1, p1.bind.imp fun y h3 ι2 H2 s2 r2 p2 v hv => ?_⟩
  split at p2
  · rename_i k ek
    refine h2 _ _ _ ⟨ι2, h3, ℓ, r2, (lr.mono s1).mono s2, p2.bind.imp fun kvs h4 ι3 H3 s3 r3 p3 kvs' hkvs => ?_⟩
    have z := p3.ok r3 ((k, v) :: kvs') (.cons (hv.mono s3) hkvs)
    rw [key_of hu ek]
    exact z
  · exact False.elim p2
theorem FR.mon' {κ : Type} {ι ι' : List Addr} {H H' : Hp} (m : Mon ι H ι' H') : ∀ {ws : List (κ × W)} {vs : List (κ × V)}, FR G H ι ws vs → FR G H' ι' ws vs
  | _, _, .nil => .nil
  | _, _, .cons r t => .cons (r.mon m) (FR.mon' m t)
theorem e_dct0 : PE X (.Dict [] [] pos) (tV G Wx fun _ h => (R.ok [] h : R (List (Key × W))).bind fun kvs h => chk (decide (kvs.length ≤ 15)) (alloc (.dct (mergeW [] kvs)) h)) := by
  refine PE.imp pe_dnewK fun σ H Q ⟨ι, hh, ℓ, r, lr, p⟩ D hD => ?_
  have p : Post G Wx σ ι H (alloc (.dct []) hh) (Wants Q G) := p
  exact post_alloc p (r.new hD) hD (r.fresh hD) (Step.new hD) ⟨[], upd_same, .nil⟩
theorem e_dct {keys : List (Option Expr)} {values : List Expr} {m : Lo → List O → R (List (Key × W))} (hd : PD X pos keys values (tD G Wx m)) (hall : keys.all (·.isSome) = true) (hl : keys.length = values.length) (h0 : keys ≠ []) (h15 : keys.length ≤ 15) :
    PE X (.Dict keys values pos) (tV G Wx fun ℓ h => (m ℓ h).bind fun kvs h => chk (decide (kvs.length ≤ 15)) (alloc (.dct (mergeW [] kvs)) h)) := by
  obtain ⟨trs, h1, h2⟩ := hd
  refine PE.imp (pe_disp h1 hall hl h0 h15) fun σ H Q ⟨ι, hh, ℓ, r, lr, p⟩ D hD => ?_
  have s0 : Step ι H ι (upd H D (.dK [])) := Step.new hD
  refine h2 _ _ _ ⟨ι, hh, ℓ, r.new hD, lr.mono s0, ?_⟩
  have p : Post G Wx σ ι H ((m ℓ hh).bind fun kvs h => chk (decide (kvs.length ≤ 15)) (alloc (.dct (mergeW [] kvs)) h)) (Wants Q G) := p
  refine (p.bind0.later s0).imp fun kvs h' ι1 H1 s1 r1 p vs hvs => ?_
  · obtain ⟨cz, p⟩ := p.chk
    have nD : D ∉ ι := r.fresh hD
    have eD : H1 D = some (.dK []) := s1.keep D _ upd_same nD
    have nD1 : D ∉ ι1 := fun hm => by
      obtain ⟨t, et, ht⟩ := s1.ext
      rw [et] at hm
      rcases List.mem_append.mp hm with hm | hm
      · exact nD hm
      · have z := ht D hm; rw [upd_same] at z; cases z
    refine ⟨eD, vs, rfl, by rw [← hvs.length]; exact of_decide_eq_true cz, ?_⟩
    obtain ⟨s2, m2⟩ := (s0.trans s1).apart (o := .dK (mergeK [] vs)) hD eD (fun xs z => nomatch z) (fun ob x z => nomatch z)
    have r2 : Rel G h' ι1 (upd H1 D (.dK (mergeK [] vs))) := r1.mon m2 fun a ha => upd_ne fun z => nD1 (by rw [← z]; exact ha)
    have p2 := p
    obtain ⟨t, et, ht⟩ := s2.ext
    have s3 : Step ι H (ι1 ++ [D]) (upd H1 D (.dK (mergeK [] vs))) := by
      refine ⟨⟨t ++ [D], by rw [et, List.append_assoc], fun a ha => ?_⟩, s2.keep, s2.there, s2.tups, s2.frzs⟩
      rcases List.mem_append.mp ha with ha | ha
      · exact ht a ha
      · rw [List.mem_singleton.mp ha]; exact hD
    have q2 : Rel G (h' ++ [.dct (mergeW [] kvs)]) (ι1 ++ [D]) (upd H1 D (.dK (mergeK [] vs))) := r2.alloc nD1 ⟨_, upd_same, FR.mon' mon_app (FR.mon' m2 (FR.merge hvs .nil))⟩ .refl
    have p3 : Post G Wx σ ι H (.ok (.ref h'.length) (h' ++ [.dct (mergeW [] kvs)])) (Wants Q G) := p
    refine p3 _ _ s3 q2 _ (.ref ?_)
    rw [List.getElem?_append_right (by rw [r2.len]; exact Nat.le_refl _), r2.len, Nat.sub_self]
    rfl

/-! ### methods of texts and lists -/
theorem k_join {m : Lo → List O → R W} (g : Gx G lvl c X) (ha : PE X a (tV G Wx m)) (hb : OkE G Wx X sb b) (hs : notStar b = true) (hsup : notSup a = true) (hline : (apos.endLine == pos.line) = true) :
    PE X (.Call (.Attribute a "join" apos) [b] [] pos) (tV G Wx fun ℓ h => (m ℓ h).bind fun x h => match x with
      | .str a => (sb.l ℓ h).bind fun ws h => joinR a ws h
      | _ => .stuck) := by
  refine PE.imp (pe_join ha hb.s (hs := star_ok hs) (hbase := sup_ok hsup) (hline := hline)) fun σ H Q ⟨ι, hh, ℓ, r, lr, p⟩ => ?_
  refine ⟨ι, hh, ℓ, r, lr, p.bind.imp fun x h1 ι1 H1 s1 r1 p1 u hu => ?_⟩
  split at p1
  · rename_i z
    cases hu
    refine ⟨⟨z, rfl⟩, ι1, h1, ℓ, r1, lr.mono s1, p1.bind.imp fun ws h2 ι2 H2 s2 r2 p2 t vs hs hr => ?_⟩
    unfold joinR at p2
    split at p2
    · rename_i ys ey
      obtain ⟨cz, p2⟩ := p2.chk
      have e := unStrs_ok ey
      subst e
      have e := hr.strs'
      subst e
      rw [g.K]
      exact ⟨z, t, ys, rfl, rfl, hs, of_decide_eq_true cz, Wants.str p2 r2⟩
    · exact False.elim p2
  · exact False.elim p1
theorem k_append {ma mb : Lo → List O → R W} (g : Gx G lvl c X) (ha : PE X a (tV G Wx ma)) (hb : PE X b (tV G Wx mb)) (hs : notStar b = true) (hsup : notSup a = true) (hline : (apos.endLine == pos.line) = true) :
    PE X (.Call (.Attribute a "append" apos) [b] [] pos) (tV G Wx fun ℓ h => (ma ℓ h).bind fun x h => chk (isLst h x) ((mb ℓ h).bind fun w h => bmV "append" x [w] h)) := by
  have hst : ([b] : List Expr).all notStar = true := by rw [List.all_cons, hs]; rfl
  refine PE.imp (pe_bm PySem.F.plainAttrs_list PySem.F.slot_list_append PySem.F.type_list_append mt_append ha (pa_cons hb pa_nil (star_ok hs)) (hbase := sup_ok hsup) (hfew := by rw [stars_all hst]; rfl) (hline := hline) (hs := star_ok hs) (hplain := by rfl)) fun σ H Q ⟨ι, hh, ℓ, r, lr, p⟩ => ?_
  refine ⟨ι, hh, ℓ, r, lr, p.bind.imp fun x h1 ι1 H1 s1 r1 p1 u hu => ?_⟩
  obtain ⟨cz, p1⟩ := p1.chk
  have hl : ∃ n ws, x = .ref n ∧ h1[n]? = some (.lst ws) := by
    unfold isLst at cz
    split at cz
    · split at cz
      · exact ⟨_, _, rfl, by assumption⟩
      · exact absurd cz Bool.false_ne_true
    · exact absurd cz Bool.false_ne_true
  obtain ⟨n, ws, rfl, en⟩ := hl
  cases hu with
  | ref ha =>
    obtain ⟨vs, e1, _⟩ := r1.obj _ _ _ en ha
    refine ⟨.inl ⟨rfl, vs, .of e1⟩, ι1, h1, ℓ, r1, lr.mono s1, p1.bind.imp fun w h2 ι2 H2 s2 r2 p2 v hv => ?_⟩
    have p2 : Post G Wx σ ι2 H2 (appR (.ref n) w h2) (Wants Q G) := p2
    unfold appR at p2
    dsimp only at p2
    split at p2
    · rename_i ws2 en2
      obtain ⟨cz, p2⟩ := p2.chk
      have ha2 := s2.get ha
      obtain ⟨vs2, e2, hr2⟩ := r2.obj _ _ _ en2 ha2
      refine ⟨_, vs2, v, rfl, rfl, e2, by rw [← hr2.length]; exact of_decide_eq_true cz, ?_⟩
      have st : Step ι2 H2 ι2 (upd H2 _ (.lst (vs2 ++ [v]))) := Step.set (List.mem_of_getElem? ha2) e2 (fun xs z => nomatch z) (fun ob x z => nomatch z)
      obtain ⟨r3, s3⟩ := r2.set (o' := .lst (ws2 ++ [w])) (u' := .lst (vs2 ++ [v])) en2 ha2 e2 (fun xs z => nomatch z) (fun ob x z => nomatch z) ⟨_, upd_same, (hr2.append (.cons hv .nil)).mono st⟩
      exact p2 ι2 _ s3 r3 _ .non
    · exact False.elim p2
end
end MP
set_option maxRecDepth 100000
set_option maxHeartbeats 4000000
namespace MP
open PySem PySem.Spec PyProof.Rows L2
section
variable {G : Pg} {lvl : Nat} {c : Ctx} {X : Cx} {Wx : WX} {C : Cn} {a b d e tg : Expr} {es : List Expr} {pos p p2 apos : Pos} {sa sb sc : Sm}
abbrev WF : WX := fun _ _ _ _ => False
theorem Post.noX {α : Type} {σ σ' : L2.St} {ι : List Addr} {H : Hp} {r : R α} {k : α → List O → List Addr → Hp → Prop} (p : Post G Wx σ ι H (noX r) k) : Post G WF σ' ι H r k := by
  cases r with
  | ok a h => exact p
  | exc x h => exact False.elim p
  | stuck => exact p
theorem Post.anyX {α : Type} {σ σ' : L2.St} {ι : List Addr} {H : Hp} {r : R α} {k : α → List O → List Addr → Hp → Prop} (p : Post G WF σ ι H r k) : Post G Wx σ' ι H r k := by
  cases r with
  | ok a h => exact p
  | exc x h => exact fun ι' H' cls d s q x => False.elim (p ι' H' cls d s q x)
  | stuck => exact p
theorem Step.notin {ι ι' : List Addr} {H H' : Hp} (s : Step ι H ι' H') {D : Addr} (hD : H D ≠ none) (n : D ∉ ι) : D ∉ ι' := fun hm => by
  obtain ⟨t, et, ht⟩ := s.ext
  rw [et] at hm
  rcases List.mem_append.mp hm with hm | hm
  · exact n hm
  · exact hD (ht D hm)

/-! ### targets -/
/-- σ' is σ but at the slots T -/
structure Sle (T : List Nat) (σ σ' : L2.St) : Prop where
  len : σ'.length = σ.length
  out : ∀ j, j ∉ T → σ'[j]? = σ[j]?
theorem Sle.refl {T : List Nat} {σ : L2.St} : Sle T σ σ := ⟨rfl, fun _ _ => rfl⟩
theorem Sle.trans {T U : List Nat} {σ σ1 σ2 : L2.St} (a : Sle T σ σ1) (b : Sle U σ1 σ2) : Sle (T ++ U) σ σ2 :=
  ⟨b.len.trans a.len, fun j h => by rw [b.out j fun z => h (List.mem_append_right _ z), a.out j fun z => h (List.mem_append_left _ z)]⟩
theorem wipe_in {σ : L2.St} {j : Nat} : ∀ {vs : List Nat}, j ∈ vs → j < σ.length → (wipe σ vs)[j]? = some none
  | v :: vs, h, hl => by
    unfold wipe
    by_cases hv : v = j
    · subst hv
      rw [List.getElem?_set_self (by rw [wipe_length]; exact hl)]
    · rw [List.getElem?_set_ne hv]
      rcases List.mem_cons.mp h with h | h
      · exact absurd h.symm hv
      · exact wipe_in h hl
theorem Sle.wipe {T own : List Nat} {σ σ' : L2.St} (a : Sle T (wipe σ own) σ') (h : ∀ i ∈ T, i ∈ own) : L2.wipe σ' own = L2.wipe σ own := by
  have hl : σ'.length = σ.length := by rw [a.len, wipe_length]
  refine List.ext_getElem? fun j => ?_
  by_cases hj : j ∈ own
  · by_cases hlt : j < σ.length
    · rw [wipe_in hj hlt, wipe_in hj (by rw [hl]; exact hlt)]
    · rw [List.getElem?_eq_none (by rw [wipe_length]; omega), List.getElem?_eq_none (by rw [wipe_length]; omega)]
  · rw [wipe_out hj, a.out j fun z => hj (h j z)]
def tG (G : Pg) (T : List Nat) (m : Tg) : TG := fun v σ H Q => ∃ ι h ℓ w, Rel G h ι H ∧ LR G H ι ℓ σ ∧ VR G H ι w v ∧ Post G WF σ ι H (m w ℓ h) fun ℓ' _ ι' H' => ∀ σ', LR G H' ι' ℓ' σ' → Sle T σ σ' → Q σ' H'
def tGs (G : Pg) (T : List Nat) (m : Tgs) : TGs := fun vs σ H Q => ∃ ι h ℓ ws, Rel G h ι H ∧ LR G H ι ℓ σ ∧ VRs G H ι ws vs ∧ Post G WF σ ι H (m ws ℓ h) fun ℓ' _ ι' H' => ∀ σ', LR G H' ι' ℓ' σ' → Sle T σ σ' → Q σ' H'
theorem g_name {i : Nat} {x : Str} (g : Gx G lvl c X) (hN : c.N[i]? = some x) (hs : setB c x = true) : PG X (.Name x pos) (tG G [i] fun w ℓ h => .ok (ℓ.set i (some w)) h) := by
  obtain ⟨h1, h2⟩ := g.set hs
  refine PG.imp (pg_name (i := i) (by rw [g.N]; exact g.nd) (by rw [g.N]; exact hN) h1 h2) fun v σ H Q ⟨ι, hh, ℓ, w, r, lr, hv, p⟩ => ?_
  refine p.ok r _ (lr.set hv) ⟨by rw [List.length_set], fun j hj => ?_⟩
  rw [List.getElem?_set_ne (fun z => hj (by rw [z]; exact List.mem_singleton_self _))]
theorem gs_nil : PGs X [] (tGs G [] fun ws ℓ h => match ws with
    | [] => .ok ℓ h
    | _ => .stuck) := by
  refine PGs.imp pgs_nil fun vs σ H Q ⟨ι, hh, ℓ, ws, r, lr, hv, p⟩ => ?_
  cases hv with
  | nil => exact ⟨rfl, Post.ok (k := fun ℓ' _ ι' H' => ∀ σ', LR G H' ι' ℓ' σ' → Sle [] σ σ' → Q σ' H') p r _ lr .refl⟩
  | cons _ _ => exact False.elim p
theorem assign_ok {t : Expr} {ts : List Expr} {env : Env} (h : notStar t = true) : assignEach (t :: ts) env = (false, assign t env) :: assignEach ts env := by
  cases t <;> first | rfl | exact absurd h Bool.false_ne_true
theorem assign_len {env : Env} : ∀ {ts : List Expr}, ts.all notStar = true → (assignEach ts env).length = ts.length ∧ (assignEach ts env).findIdx? (·.1) = none
  | [], _ => ⟨rfl, rfl⟩
  | t :: ts, h => by
    rw [List.all_cons, Bool.and_eq_true] at h
    obtain ⟨h1, h2⟩ := assign_len (env := env) h.2
    rw [assign_ok h.1]
    refine ⟨by rw [List.length_cons, List.length_cons, h1], ?_⟩
    rw [List.findIdx?_cons, h2]
    rfl
theorem gs_cons {T U : List Nat} {m : Tg} {ms : Tgs} {ts : List Expr} (hs : notStar a = true) (ha : PG X a (tG G T m)) (hr : PGs X ts (tGs G U ms)) : PGs X (a :: ts) (tGs G (T ++ U) fun ws ℓ h => match ws with
    | w :: ws => (noX (m w ℓ h)).bind fun ℓ h => ms ws ℓ h
    | [] => .stuck) := by
  refine PGs.imp (pgs_cons ha hr (by rw [assign_ok hs]; rfl)) fun vs σ H Q ⟨ι, hh, ℓ, ws, r, lr, hv, p⟩ => ?_
  cases hv with
  | nil => exact False.elim p
  | @cons w v ws vs h1 h2 =>
    have p : Post G WF σ ι H ((noX (m w ℓ hh)).bind fun ℓ h => ms ws ℓ h) _ := p
    refine ⟨v, vs, rfl, ι, hh, ℓ, w, r, lr, h1, (Post.noX p.bind).imp fun ℓ1 h1' ι1 H1 s1 r1 p1 σ1 lr1 sl1 => ?_⟩
    refine ⟨ι1, h1', ℓ1, ws, r1, lr1, h2.mono s1, (Post.anyX p1).imp fun ℓ2 h2' ι2 H2 s2 r2 p2 σ2 lr2 sl2 => p2 σ2 lr2 (sl1.trans sl2)⟩
theorem PG.or {t t' : TG} (h : PG X tg t) (h' : PG X tg t') : PG X tg (fun v σ H Q => t v σ H Q ∨ t' v σ H Q) := ⟨fun pins s σ H v u Q I r q => by
  rcases q with q | q
  · exact h.run pins s σ H v u Q I r q
  · exact h'.run pins s σ H v u Q I r q⟩
theorem evts_len {m : Tgs} {n : Nat} : True := trivial
theorem g_tup {T : List Nat} {ms : Tgs} {ts : List Expr} {k : Nat} (g : Gx G lvl c X) (hst : ts.all notStar = true) (hlen : ∀ ws ℓ h, ws.length ≠ ts.length → ∀ σ ι H kk, ¬ Post G WF σ ι H (ms ws ℓ h) kk) (hr : PGs X ts (tGs G T ms)) : PG X (.Tuple ts k pos) (tG G T fun w ℓ h => match seqW h w with
    | some ws => ms ws ℓ h
    | none => .stuck) := by
  obtain ⟨e1, e2⟩ := assign_len (env := X.env) hst
  refine PG.imp (PG.or (pg_lst g.calm hr e1 e2) (pg_tup g.calm hr e1 e2)) fun v σ H Q ⟨ι, hh, ℓ, w, r, lr, hv, p⟩ => ?_
  have p : Post G WF σ ι H (match seqW hh w with
    | some ws => ms ws ℓ hh
    | none => .stuck) _ := p
  cases es : seqW hh w with
  | none => rw [es] at p; exact False.elim p
  | some ws =>
    rw [es] at p
    have p : Post G WF σ ι H (ms ws ℓ hh) _ := p
    obtain ⟨q, vs, rfl, hsq, hv2⟩ := seq_of r hv es
    have hl : ws.length = ts.length := by
      by_cases z : ws.length = ts.length
      · exact z
      · exact absurd p (hlen ws ℓ hh z σ ι H _)
    rw [g.K]
    rcases hsq with hsq | hsq
    · exact .inl ⟨q, vs, rfl, hsq, by rw [← hv2.length]; exact hl, ι, hh, ℓ, ws, r, lr, hv2, p⟩
    · exact .inr ⟨q, vs, rfl, hsq, by rw [← hv2.length]; exact hl, ι, hh, ℓ, ws, r, lr, hv2, p⟩
theorem g_sub {ma mb : Lo → List O → R W} (hs : notSlice b = true) (ha : PE X a (tV G Wx ma)) (hb : PE X b (tV G Wx mb)) :
    PG X (.Subscript a b pos) (tG G [] fun w ℓ h => (ma ℓ h).bind fun x h => (mb ℓ h).bind fun y h => (setSub x y w h).bind fun _ h => .ok ℓ h) := by
  refine PG.imp (pg_sub ha hb set_list (ha := by intro v; cases b <;> first | rfl | exact absurd hs Bool.false_ne_true)) fun v σ H Q ⟨ι, hh, ℓ, w, r, lr, hv, p⟩ => ?_
  refine ⟨ι, hh, ℓ, r, lr, (Post.anyX p.bind).imp fun x h1 ι1 H1 s1 r1 p1 u hu => ?_⟩
  refine ⟨ι1, h1, ℓ, r1, lr.mono s1, (Post.anyX p1.bind).imp fun y h2 ι2 H2 s2 r2 p2 z hz => ?_⟩
  have p3 := p2.bind
  unfold setSub at p3
  split at p3
  · rename_i n k
    split at p3
    · rename_i ws en
      split at p3
      · rename_i j ej
        cases hz
        cases (hu.mono s2) with
        | ref ha2 =>
          obtain ⟨vs2, e2, hr2⟩ := r2.obj _ _ _ en ha2
          refine ⟨_, vs2, k, j, rfl, rfl, e2, by rw [← hr2.length]; exact ej, ?_⟩
          have st : Step ι2 H2 ι2 (upd H2 _ (.lst (vs2.set j v))) := Step.set (List.mem_of_getElem? ha2) e2 (fun xs z => nomatch z) (fun ob x z => nomatch z)
          have hv2 := (hv.mono s1).mono s2
          obtain ⟨r3, s3⟩ := r2.set (o' := .lst (ws.set j w)) (u' := .lst (vs2.set j v)) en ha2 e2 (fun xs z => nomatch z) (fun ob x z => nomatch z) ⟨_, upd_same, VRs.set (hv2.mono st) j (hr2.mono st)⟩
          exact (p3 ι2 _ s3 r3).ok r3 _ ((lr.mono s1).mono (s2.trans s3)) .refl
      · exact False.elim p3
    · exact False.elim p3
  · exact False.elim p3

/-! ### what is walked -/
structure WalkW (G : Pg) (J : It) (ws : List W) (gs : Gd) (ι0 : List Addr) (H0 : Hp) : Prop where
  goes : ∀ (i : Nat) (w : W) (h : List O) (ι : List Addr) (H : Hp), Step ι0 H0 ι H → Rel G h ι H → gsOk h gs = true → ws[i]? = some w → J.go i H
  stops : ∀ (h : List O) (ι : List Addr) (H : Hp), Step ι0 H0 ι H → Rel G h ι H → gsOk h gs = true → J.stop ws.length H
  yields : ∀ (i : Nat) (w : W) (h : List O) (ι : List Addr) (H : Hp) (x : V) (H' : Hp), Step ι0 H0 ι H → Rel G h ι H → gsOk h gs = true → ws[i]? = some w → J.yld i H x H' → Step ι H ι H' ∧ Rel G h ι H' ∧ VR G H' ι w x
def tI (G : Pg) (Wx : WX) (m : Lo → List O → R (List W × Gd)) : TI := fun σ H R => ∃ ι h ℓ, Rel G h ι H ∧ LR G H ι ℓ σ ∧ Post G Wx σ ι H (m ℓ h) fun r _ ι0 H0 => ∀ J, WalkW G J r.1 r.2 ι0 H0 → R J H0
/-- a list, as long as it stands -/
def Keeps (G : Pg) (H0 : Hp) (ι0 : List Addr) (gs : Gd) (q : Addr) (ws : List W) (P : Hp → List V → Prop) : Prop :=
  ∀ (h : List O) (ι : List Addr) (H : Hp), Step ι0 H0 ι H → Rel G h ι H → gsOk h gs = true → ∃ vs, P H vs ∧ VRs G H ι ws vs
theorem gsOk_mem {h : List O} {gs : Gd} {n : Nat} {ws : List W} (e : gsOk h gs = true) (m : (n, ws) ∈ gs) : h[n]? = some (.lst ws) := by
  have z := List.all_eq_true.mp e _ m
  unfold gOk at z
  dsimp only at z
  split at z
  · rename_i ws' ew
    rw [ew, W.beqs_eq z]
  · exact absurd z Bool.false_ne_true
/-- an operand that is walked: a list -/
theorem keeps_list {ι0 : List Addr} {H0 : Hp} {h0 : List O} {o : Opd} {v : V} {st : Bool} {σ : L2.St} {k : List W × Gd → List O → List Addr → Hp → Prop} (ho : OpdR G H0 ι0 o v) (r0 : Rel G h0 ι0 H0)
    (p : Post G Wx σ ι0 H0 (seqO st h0 o) k) : (∃ ws gs, k (ws, gs) h0 ι0 H0 ∧ tupO o = false ∧ ∃ q vs0, v = .ref q ∧ SqL G.K H0 q vs0 ∧ ∀ gs', (∀ x : Nat × List W, x ∈ gs → x ∈ gs') → Keeps G H0 ι0 gs' q ws (fun H vs => SqL G.K H q vs))
    ∨ (∃ ws gs, k (ws, gs) h0 ι0 H0 ∧ tupO o = true ∧ ∃ q vs0, v = .ref q ∧ SqT G.K H0 q vs0 ∧ ∀ gs', Keeps G H0 ι0 gs' q ws (fun H vs => SqT G.K H q vs))
    ∨ (st = true ∧ ∃ x, v = .str x ∧ k (chars x, []) h0 ι0 H0) := by
  unfold seqO at p
  split at p
  · obtain ⟨D, vs, rfl, eD, nD, hr⟩ := ho
    exact .inl ⟨_, _, p.ok r0, rfl, D, vs, rfl, .of eD, fun gs' _ h ι H s r _ => ⟨vs, .of (s.keep D _ eD nD), hr.mono s⟩⟩
  · cases (show VR G H0 ι0 _ v from ho) with
    | tup hs hr => exact .inr (.inl ⟨_, _, p.ok r0, rfl, _, _, rfl, hs, fun gs' h ι H s r _ => ⟨_, s.sqT hs, hr.mono s⟩⟩)
  · cases (show VR G H0 ι0 _ v from ho) with
    | slst hs hr => exact .inl ⟨_, _, p.ok r0, rfl, _, _, rfl, hs.sql, fun gs' _ h ι H s r _ => ⟨_, (s.stL hs).sql, hr.mono s⟩⟩
  · cases (show VR G H0 ι0 _ v from ho) with
    | str x =>
      cases st with
      | true => exact .inr (.inr ⟨rfl, _, rfl, p.ok r0⟩)
      | false => exact False.elim p
  · cases (show VR G H0 ι0 _ v from ho) with
    | ref ha =>
      split at p
      · rename_i ws en
        obtain ⟨vs, h1, h2⟩ := r0.sql en ha
        refine .inl ⟨_, _, p.ok r0, rfl, _, vs, rfl, h1, fun gs' hg h ι H s r e => ?_⟩
        exact r.sql (gsOk_mem e (hg _ (List.mem_singleton_self _))) (s.get ha)
      · exact False.elim p
  · exact False.elim p
theorem walk_itl {ι0 : List Addr} {H0 : Hp} {ws : List W} {gs : Gd} {q : Addr} (hk : Keeps G H0 ι0 gs q ws (fun H vs => SqL G.K H q vs)) : WalkW G (Itl G.K q) ws gs ι0 H0 := by
  refine ⟨fun i w h ι H s r e ew => ?_, fun h ι H s r e => ?_, fun i w h ι H x H' s r e ew y => ?_⟩
  · obtain ⟨vs, h1, h2⟩ := hk h ι H s r e
    obtain ⟨v, e1, _⟩ := h2.get ew
    exact ⟨vs, v, h1, e1⟩
  · obtain ⟨vs, h1, h2⟩ := hk h ι H s r e
    exact ⟨vs, h1, by rw [h2.length]; exact Nat.le_refl _⟩
  · obtain ⟨vs, h1, h2⟩ := hk h ι H s r e
    obtain ⟨v, e1, e2⟩ := h2.get ew
    obtain ⟨rfl, y⟩ := y
    have z := y vs h1
    rw [e1] at z
    cases z
    exact ⟨.refl, r, e2⟩
theorem walk_itt {ι0 : List Addr} {H0 : Hp} {ws : List W} {gs : Gd} {q : Addr} (hk : Keeps G H0 ι0 gs q ws (fun H vs => SqT G.K H q vs)) : WalkW G (Itt G.K q) ws gs ι0 H0 := by
  refine ⟨fun i w h ι H s r e ew => ?_, fun h ι H s r e => ?_, fun i w h ι H x H' s r e ew y => ?_⟩
  · obtain ⟨vs, h1, h2⟩ := hk h ι H s r e
    obtain ⟨v, e1, _⟩ := h2.get ew
    exact ⟨vs, v, h1, e1⟩
  · obtain ⟨vs, h1, h2⟩ := hk h ι H s r e
    exact ⟨vs, h1, by rw [h2.length]; exact Nat.le_refl _⟩
  · obtain ⟨vs, h1, h2⟩ := hk h ι H s r e
    obtain ⟨v, e1, e2⟩ := h2.get ew
    obtain ⟨rfl, y⟩ := y
    have z := y vs h1
    rw [e1] at z
    cases z
    exact ⟨.refl, r, e2⟩
theorem walk_its {ι0 : List Addr} {H0 : Hp} {gs : Gd} {z : Str} : WalkW G (Its z) (chars z) gs ι0 H0 := by
  refine ⟨fun i w h ι H s r e ew => ?_, fun h ι H s r e => ?_, fun i w h ι H x H' s r e ew y => ?_⟩
  · have := (List.getElem?_eq_some_iff.mp ew).1
    unfold chars at this
    rw [List.length_map, Array.length_toList] at this
    exact this
  · show z.cps.size ≤ _
    unfold chars
    rw [List.length_map, Array.length_toList]
    exact Nat.le_refl _
  · obtain ⟨rfl, cc, e1, rfl⟩ := y
    refine ⟨.refl, r, ?_⟩
    unfold chars at ew
    rw [List.getElem?_map, Array.getElem?_toList, e1] at ew
    cases ew
    exact .str _
def iSeq (K : PySem.W.Frag) (tl : TE) : TI := fun σ H R => tl σ H fun x H1 => (∃ a, x = .ref a ∧ (∃ xs, SqL K H1 a xs) ∧ R (Itl K a) H1) ∨ (∃ a, x = .ref a ∧ (∃ xs, SqT K H1 a xs) ∧ R (Itt K a) H1) ∨ ∃ z, x = .str z ∧ R (Its z) H1
theorem pi_seq {l : Expr} {tl : TE} (hl : PE X l tl) : PI X tg l (iSeq X.K tl) := by
  refine ⟨fun pins s σ H R I h => ?_⟩
  refine thn (hl.run pins s σ H _ I h) fun v s1 ⟨x, H1, I1, r1, q1⟩ => ?_
  rcases q1 with ⟨a, e, ⟨xs, hq⟩, q⟩ | ⟨a, e, ⟨xs, hq⟩, q⟩ | ⟨z, e, q⟩
  · subst e
    cases r1
    obtain ⟨its, rv, p, hz⟩ := I1.list hq
    refine wpAny_pyIter_list p.isList ?_
    refine ⟨s1.heap.objs.size, [s1.heap.objs.size], _, _, H1, rfl, I1.kept (t' := s1.toks) fun b o e => Heap.get?_push_of_some _ e, turn_list a _, ⟨_, Heap.get?_push_size _ rfl, rfl, rfl⟩, fun b hb => ?_, q⟩
    have e : b = s1.heap.objs.size := by simpa using hb
    subst e
    exact I1.fpOk (Nat.le_refl _) (I1.hok.fresh (Nat.le_refl _))
  · subst e
    cases r1
    obtain ⟨its, rv, p, hz⟩ := I1.tuple hq
    refine wpAny_pyIter_tuple (show s1.heap.IsTuple a its.toArray from p) ?_
    refine ⟨s1.heap.objs.size, [s1.heap.objs.size], _, _, H1, rfl, I1.kept (t' := s1.toks) fun b o e => Heap.get?_push_of_some _ e, turn_tuple a _, ⟨_, Heap.get?_push_size _ rfl, rfl, rfl⟩, fun b hb => ?_, q⟩
    have e : b = s1.heap.objs.size := by simpa using hb
    subst e
    exact I1.fpOk (Nat.le_refl _) (I1.hok.fresh (Nat.le_refl _))
  · subst e
    obtain ⟨t, rfl⟩ := r1
    cases ha : z.cps.all (· < 128)
    · exact wpAny_pyIter_wide ha (pi_one (tk := s1.toks) I1 _ (turn_str _ z t "str_iterator" (.inr rfl)) ⟨_, Heap.get?_push_size _ rfl, rfl, rfl⟩ q)
    · exact wpAny_pyIter_ascii ha (pi_one (tk := s1.toks) I1 _ (turn_str _ z t "str_ascii_iterator" (.inl rfl)) ⟨_, Heap.get?_push_size _ rfl, rfl, rfl⟩ q)
theorem i_val (g : Gx G lvl c X) (ha : OkE G Wx X sa a) : PI X tg a (tI G Wx fun ℓ h => (sa.opd ℓ h).bind fun x h => seqO true h x) := by
  refine PI.imp (pi_seq ha.o) fun σ H R ⟨ι, hh, ℓ, r, lr, p⟩ => ?_
  refine ⟨ι, hh, ℓ, r, lr, (Post.bind p).imp fun x h1 ι1 H1 s1 r1 p1 v hv => ?_⟩
  rw [g.K]
  rcases keeps_list hv r1 p1 with ⟨ws, gs, k, _, q, vs, rfl, h1, h2⟩ | ⟨ws, gs, k, _, q, vs, rfl, h1, h2⟩ | ⟨_, x, rfl, k⟩
  · exact .inl ⟨q, rfl, ⟨vs, h1⟩, k _ (walk_itl (h2 gs fun x hx => hx))⟩
  · exact .inr (.inl ⟨q, rfl, ⟨vs, h1⟩, k _ (walk_itt (h2 gs))⟩)
  · exact .inr (.inr ⟨x, rfl, k _ walk_its⟩)
theorem walk_itr {ι0 : List Addr} {H0 : Hp} {gs : Gd} {lo : Int} {n : Nat} : WalkW G (Itr lo n) (rngL lo n) gs ι0 H0 := by
  have hl : (rngL lo n).length = n := by unfold rngL; simp
  refine ⟨fun i w h ι H s r e ew => ?_, fun h ι H s r e => ?_, fun i w h ι H x H' s r e ew y => ?_⟩
  · have := (List.getElem?_eq_some_iff.mp ew).1
    rw [hl] at this
    exact this
  · rw [hl]; exact Nat.le_refl _
  · obtain ⟨rfl, rfl⟩ := y
    refine ⟨.refl, r, ?_⟩
    have hi := (List.getElem?_eq_some_iff.mp ew).1
    rw [hl] at hi
    unfold rngL at ew
    rw [List.getElem?_map, List.getElem?_range hi] at ew
    cases ew
    exact .int _
theorem rng_of {i : Int} (h : rngOk i = true) : -(2 ^ 62) ≤ i ∧ i < 2 ^ 62 := of_decide_eq_true h
theorem i_range1 {m : Lo → List O → R W} (F : Fc G C lvl c.fs) (g : Gx G lvl c X) (hgl : glB c "range" = true) (hst : notStar a = true) (ha : PE X a (tV G Wx m)) :
    PI X tg (.Call (.Name "range" p) [a] [] pos) (tI G Wx fun ℓ h => ((m ℓ h).bind fun w h => (R.ok [] h : R (List W)).bind fun ws h => .ok (w :: ws) h).bind fun ws h => rngM ws h) := by
  refine PI.imp (pi_range1 (g.gl hgl) (nm_blt F g (by decide)) (pa_cons ha pa_nil (star_ok hst)) (hs := star_ok hst)) fun σ H R' ⟨ι, hh, ℓ, r, lr, p⟩ => ?_
  refine ⟨ι, hh, ℓ, r, lr, (Post.bind (Post.bind p)).imp fun w h1 ι1 H1 s1 r1 p1 v hv => ?_⟩
  have p1 : Post G Wx σ ι1 H1 (rngM [w] h1) (fun r _ ι0 H0 => ∀ J, WalkW G J r.1 r.2 ι0 H0 → R' J H0) := Post.ok (a := [w]) p1 r1
  unfold rngM at p1
  cases hv <;> first
    | exact False.elim p1
    | skip
  obtain ⟨cz, p1⟩ := Post.chk p1
  obtain ⟨c1, c2⟩ := rng_of cz
  exact ⟨_, rfl, c1, c2, p1.ok r1 _ walk_itr⟩
theorem i_range2 {m n : Lo → List O → R W} (F : Fc G C lvl c.fs) (g : Gx G lvl c X) (hgl : glB c "range" = true) (hst : notStar a = true) (hst2 : notStar b = true) (ha : PE X a (tV G Wx m)) (hb : PE X b (tV G Wx n)) :
    PI X tg (.Call (.Name "range" p) [a, b] [] pos) (tI G Wx fun ℓ h => ((m ℓ h).bind fun w h => ((n ℓ h).bind fun w h => (R.ok [] h : R (List W)).bind fun ws h => .ok (w :: ws) h).bind fun ws h => .ok (w :: ws) h).bind fun ws h => rngM ws h) := by
  refine PI.imp (pi_range2 (g.gl hgl) (nm_blt F g (by decide)) (pa_cons ha (pa_cons hb pa_nil (star_ok hst2)) (star_ok hst)) (hs := by rw [star_ok hst, star_ok hst2]; rfl) (hs2 := by rw [star_ok hst2]; rfl)) fun σ H R' ⟨ι, hh, ℓ, r, lr, p⟩ => ?_
  refine ⟨ι, hh, ℓ, r, lr, (Post.bind (Post.bind p)).imp fun w h1 ι1 H1 s1 r1 p1 v hv => ?_⟩
  refine ⟨ι1, h1, ℓ, r1, lr.mono s1, (Post.bind (Post.bind p1)).imp fun w2 h2 ι2 H2 s2 r2 p2 u hu => ?_⟩
  have p2 : Post G Wx σ ι2 H2 (rngM [w, w2] h2) (fun r _ ι0 H0 => ∀ J, WalkW G J r.1 r.2 ι0 H0 → R' J H0) := Post.ok (Post.ok (a := [w2]) p2 r2) r2
  unfold rngM at p2
  cases hv <;> first
    | exact False.elim p2
    | skip
  cases hu <;> first
    | exact False.elim p2
    | skip
  obtain ⟨cz, p2⟩ := Post.chk p2
  rw [Bool.and_eq_true] at cz
  obtain ⟨c1, c2⟩ := rng_of cz.1
  obtain ⟨c3, c4⟩ := rng_of cz.2
  exact ⟨_, _, rfl, ⟨c1, c2, c3, c4⟩, p2.ok r2 _ walk_itr⟩
theorem Keeps.mono {H0 H1 : Hp} {ι0 ι1 : List Addr} {gs : Gd} {q : Addr} {ws : List W} {P : Hp → List V → Prop} (k : Keeps G H0 ι0 gs q ws P) (s : Step ι0 H0 ι1 H1) : Keeps G H1 ι1 gs q ws P := fun h ι H s2 r e => k h ι H (s.trans s2) r e
theorem zip_get {xs ys : List W} {i : Nat} {w : W} : (zipW xs ys)[i]? = some w → ∃ x y, xs[i]? = some x ∧ ys[i]? = some y ∧ w = .tup [x, y] := by
  induction xs generalizing ys i with
  | nil => intro h; simp [zipW] at h
  | cons x xs ih =>
    cases ys with
    | nil => intro h; simp [zipW] at h
    | cons y ys =>
      intro h
      cases i with
      | zero => simp [zipW] at h; exact ⟨x, y, rfl, rfl, h.symm⟩
      | succ i => exact ih (by simpa [zipW] using h)
theorem zip_len {xs ys : List W} : xs.length ≤ (zipW xs ys).length ∨ ys.length ≤ (zipW xs ys).length := by
  induction xs generalizing ys with
  | nil => exact .inl (Nat.zero_le _)
  | cons x xs ih =>
    cases ys with
    | nil => exact .inr (Nat.zero_le _)
    | cons y ys =>
      simp only [zipW, List.length_cons]
      rcases ih (ys := ys) with h | h
      · exact .inl (by omega)
      · exact .inr (by omega)
theorem pair_new {h : List O} {ι : List Addr} {H : Hp} {T : Addr} {x y : V} {w w2 : W} (r : Rel G h ι H) (hT : H T = none) (hx : VR G H ι w x) (hy : VR G H ι w2 y) :
    Step ι H ι (upd H T (.tup [x, y])) ∧ Rel G h ι (upd H T (.tup [x, y])) ∧ VR G (upd H T (.tup [x, y])) ι (.tup [w, w2]) (.ref T) :=
  ⟨Step.new hT, r.new hT, .tup (.of upd_same) (.cons (hx.mono (Step.new hT)) (.cons (hy.mono (Step.new hT)) .nil))⟩
theorem walk_zip {ι0 : List Addr} {H0 : Hp} {xs ys : List W} {gs : Gd} {q q2 : Addr} (h1 : Keeps G H0 ι0 gs q xs (fun H vs => SqL G.K H q vs)) (h2 : Keeps G H0 ι0 gs q2 ys (fun H vs => SqL G.K H q2 vs)) : WalkW G (Itz G.K q q2) (zipW xs ys) gs ι0 H0 := by
  refine ⟨fun i w h ι H s r e ew => ?_, fun h ι H s r e => ?_, fun i w h ι H x H' s r e ew y => ?_⟩
  · obtain ⟨vs, a1, a2⟩ := h1 h ι H s r e
    obtain ⟨us, b1, b2⟩ := h2 h ι H s r e
    obtain ⟨x, y, e1, e2, rfl⟩ := zip_get ew
    obtain ⟨v, c1, _⟩ := a2.get e1
    obtain ⟨u, d1, _⟩ := b2.get e2
    exact ⟨vs, us, v, u, a1, b1, c1, d1⟩
  · obtain ⟨vs, a1, a2⟩ := h1 h ι H s r e
    obtain ⟨us, b1, b2⟩ := h2 h ι H s r e
    refine ⟨vs, us, a1, b1, ?_⟩
    rw [← a2.length, ← b2.length]
    exact zip_len
  · obtain ⟨vs, a1, a2⟩ := h1 h ι H s r e
    obtain ⟨us, b1, b2⟩ := h2 h ι H s r e
    obtain ⟨x', y', e1, e2, rfl⟩ := zip_get ew
    obtain ⟨v, c1, c2⟩ := a2.get e1
    obtain ⟨u, d1, d2⟩ := b2.get e2
    obtain ⟨T, xv, yv, rfl, hT, rfl, z1, z2⟩ := y
    have z1 := z1 vs a1
    rw [c1] at z1; cases z1
    have z2 := z2 us b1
    rw [d1] at z2; cases z2
    exact pair_new r hT c2 d2
theorem walk_zipT {ι0 : List Addr} {H0 : Hp} {xs ys : List W} {gs : Gd} {q q2 : Addr} (h1 : Keeps G H0 ι0 gs q xs (fun H vs => SqT G.K H q vs)) (h2 : Keeps G H0 ι0 gs q2 ys (fun H vs => SqT G.K H q2 vs)) : WalkW G (RZ.ItzT G.K q q2) (zipW xs ys) gs ι0 H0 := by
  refine ⟨fun i w h ι H s r e ew => ?_, fun h ι H s r e => ?_, fun i w h ι H x H' s r e ew y => ?_⟩
  · obtain ⟨vs, a1, a2⟩ := h1 h ι H s r e
    obtain ⟨us, b1, b2⟩ := h2 h ι H s r e
    obtain ⟨x, y, e1, e2, rfl⟩ := zip_get ew
    obtain ⟨v, c1, _⟩ := a2.get e1
    obtain ⟨u, d1, _⟩ := b2.get e2
    exact ⟨vs, us, v, u, a1, b1, c1, d1⟩
  · obtain ⟨vs, a1, a2⟩ := h1 h ι H s r e
    obtain ⟨us, b1, b2⟩ := h2 h ι H s r e
    refine ⟨vs, us, a1, b1, ?_⟩
    rw [← a2.length, ← b2.length]
    exact zip_len
  · obtain ⟨vs, a1, a2⟩ := h1 h ι H s r e
    obtain ⟨us, b1, b2⟩ := h2 h ι H s r e
    obtain ⟨x', y', e1, e2, rfl⟩ := zip_get ew
    obtain ⟨v, c1, c2⟩ := a2.get e1
    obtain ⟨u, d1, d2⟩ := b2.get e2
    obtain ⟨T, xv, yv, rfl, hT, rfl, z1, z2⟩ := y
    have z1 := z1 vs a1
    rw [c1] at z1; cases z1
    have z2 := z2 us b1
    rw [d1] at z2; cases z2
    exact pair_new r hT c2 d2
theorem enum_get {xs : List W} {k i : Nat} {w : W} : (enumW k xs)[i]? = some w → ∃ x, xs[i]? = some x ∧ w = .tup [.int ((k + i : Nat) : Int), x] := by
  induction xs generalizing k i with
  | nil => intro h; simp [enumW] at h
  | cons x xs ih =>
    intro h
    cases i with
    | zero => simp [enumW] at h; exact ⟨x, rfl, h.symm⟩
    | succ i =>
      obtain ⟨y, h1, h2⟩ := ih (k := k + 1) (i := i) (by simpa [enumW] using h)
      exact ⟨y, h1, by rw [h2, show k + 1 + i = k + (i + 1) by omega]⟩
theorem enum_len {xs : List W} {k : Nat} : (enumW k xs).length = xs.length := by
  induction xs generalizing k with
  | nil => rfl
  | cons x xs ih => simp [enumW, ih]
theorem walk_enum {ι0 : List Addr} {H0 : Hp} {xs : List W} {gs : Gd} {q : Addr} (h1 : Keeps G H0 ι0 gs q xs (fun H vs => SqL G.K H q vs)) : WalkW G (Ite G.K q) (enumW 0 xs) gs ι0 H0 := by
  refine ⟨fun i w h ι H s r e ew => ?_, fun h ι H s r e => ?_, fun i w h ι H x H' s r e ew y => ?_⟩
  · obtain ⟨vs, a1, a2⟩ := h1 h ι H s r e
    obtain ⟨x, e1, rfl⟩ := enum_get ew
    obtain ⟨v, c1, _⟩ := a2.get e1
    exact ⟨vs, v, a1, c1⟩
  · obtain ⟨vs, a1, a2⟩ := h1 h ι H s r e
    exact ⟨vs, a1, by rw [enum_len, a2.length]; exact Nat.le_refl _⟩
  · obtain ⟨vs, a1, a2⟩ := h1 h ι H s r e
    obtain ⟨x', e1, rfl⟩ := enum_get ew
    obtain ⟨v, c1, c2⟩ := a2.get e1
    obtain ⟨T, xv, rfl, hT, rfl, z1⟩ := y
    have z1 := z1 vs a1
    rw [c1] at z1; cases z1
    rw [Nat.zero_add]
    exact pair_new r hT (.int _) c2
theorem i_zip {elts : List Expr} {kk : Nat} {tpos : Pos} (F : Fc G C lvl c.fs) (g : Gx G lvl c X) (hgl : glB c "zip" = true) (hst : notStar a = true) (hst2 : notStar b = true) (ha : OkE G Wx X sa a) (hb : OkE G Wx X sb b) :
    PI X (.Tuple elts kk tpos) (.Call (.Name "zip" p) [a, b] [] pos) (tI G Wx fun ℓ h => (sa.opd ℓ h).bind fun x h => (sb.opd ℓ h).bind fun y h => chk (tupO x == tupO y) ((seqO false h x).bind fun xs h => (seqO false h y).bind fun ys h => .ok (zipW xs.1 ys.1, xs.2 ++ ys.2) h)) := by
  refine PI.imp (RZ.pi_zipA (g.gl hgl) (nm_blt F g (by decide)) (pa_cons ha.o (pa_cons hb.o pa_nil (star_ok hst2)) (star_ok hst)) (hs := star_ok hst) (hpl := stars_ok (es := [b]) (by rw [List.all_cons, hst2]; rfl))) fun σ H R' ⟨ι, hh, ℓ, r, lr, p⟩ => ?_
  refine ⟨ι, hh, ℓ, r, lr, (Post.bind p).imp fun x h1 ι1 H1 s1 r1 p1 u hu => ?_⟩
  refine ⟨ι1, h1, ℓ, r1, lr.mono s1, (Post.bind p1).imp fun y h2 ι2 H2 s2 r2 p2 v hv => ?_⟩
  obtain ⟨cz, p2⟩ := p2.chk
  rw [g.K]
  rcases keeps_list (hu.mono s2) r2 p2.bind with ⟨ws, gs, k, e1, q, vs, rfl, hq, hk⟩ | ⟨ws, gs, k, e1, q, vs, rfl, hq, hk⟩ | ⟨z, _⟩
  · rcases keeps_list hv r2 k.bind with ⟨ws2, gs2, k2, e2, q2, vs2, rfl, hq2, hk2⟩ | ⟨ws2, gs2, k2, e2, q2, vs2, rfl, hq2, hk2⟩ | ⟨z, _⟩
    · exact ⟨q, q2, vs, vs2, rfl, .inl ⟨hq, hq2, k2.ok r2 _ (walk_zip (hk _ fun x hx => List.mem_append_left _ hx) (hk2 _ fun x hx => List.mem_append_right _ hx))⟩⟩
    · rw [e1, e2] at cz; cases cz
    · cases z
  · rcases keeps_list hv r2 k.bind with ⟨ws2, gs2, k2, e2, q2, vs2, rfl, hq2, hk2⟩ | ⟨ws2, gs2, k2, e2, q2, vs2, rfl, hq2, hk2⟩ | ⟨z, _⟩
    · rw [e1, e2] at cz; cases cz
    · exact ⟨q, q2, vs, vs2, rfl, .inr ⟨hq, hq2, k2.ok r2 _ (walk_zipT (hk _) (hk2 _))⟩⟩
    · cases z
  · cases z
theorem i_enum {elts : List Expr} {kk : Nat} {tpos : Pos} (F : Fc G C lvl c.fs) (g : Gx G lvl c X) (hgl : glB c "enumerate" = true) (hst : notStar a = true) (ha : OkE G Wx X sa a) :
    PI X (.Tuple elts kk tpos) (.Call (.Name "enumerate" p) [a] [] pos) (tI G Wx fun ℓ h => (sa.opd ℓ h).bind fun x h => chk (!tupO x) ((seqO false h x).bind fun xs h => .ok (enumW 0 xs.1, xs.2) h)) := by
  refine PI.imp (pi_enum (g.gl hgl) (nm_blt F g (by decide)) (pa_cons ha.o pa_nil (star_ok hst)) (hs := star_ok hst)) fun σ H R' ⟨ι, hh, ℓ, r, lr, p⟩ => ?_
  refine ⟨ι, hh, ℓ, r, lr, (Post.bind p).imp fun x h1 ι1 H1 s1 r1 p1 u hu => ?_⟩
  obtain ⟨cz, p1⟩ := p1.chk
  rw [g.K]
  rcases keeps_list hu r1 p1.bind with ⟨ws, gs, k, e1, q, vs, rfl, hq, hk⟩ | ⟨ws, gs, k, e1, q, vs, rfl, hq, hk⟩ | ⟨z, _⟩
  · exact ⟨q, vs, rfl, hq, k.ok r1 _ (walk_enum (hk _ fun x hx => hx))⟩
  · rw [e1] at cz; cases cz
  · cases z

/-! ### comprehensions -/
def relN (outer names : List (Str × NameKind)) : List (Str × NameKind) := names.map fun (n, k) => if (k == .free && outer.lookup n == some .cell) then (n, .cell) else (n, k)
def Ctx.blk (c : Ctx) (scope : Scope) : Ctx := { c with names := relN c.names scope.names, sets := scope.names }
theorem Gx.blk {scope : Scope} (g : Gx G lvl c X) (hk : scope.kind = .function) (s : Shared) (H : Hp) (A0 : Addr) (cl : List (Str × Addr)) (fp : List Addr) : Gx G lvl (c.blk scope) (X.blk s H scope (compEnvC scope cl A0 X.env) fp) := by
  have hn : (relS scope X.env.scope).names = relN c.names scope.names := by
    unfold relS relN
    rw [g.kd, g.nm]
    refine List.map_congr_left fun ⟨n, k⟩ _ => ?_
    have e : (ScopeKind.function == ScopeKind.function) = true := rfl
    simp only [e, Bool.and_true]
  refine ⟨g.prog, g.w, g.K, g.mg, g.base, g.N, g.nd, hn, hk, fun x hx => ?_, g.calm, g.room, g.gd⟩
  have hx : scope.names.lookup x = some .local ∨ scope.names.lookup x = some .cell := hx
  rcases hx with hx | hx
  · have z := lookup_relS_keep (sc := X.env.scope) (k := .local) (fun z => nomatch z) hx
    exact ⟨.inl z, .inr z⟩
  · have z := lookup_relS_keep (sc := X.env.scope) (k := .cell) (fun z => nomatch z) hx
    refine ⟨.inr z, .inl ?_⟩
    show (scope.names.lookup x == some .cell) = true
    rw [hx]; rfl
def lcF (mt : Tg) (mf : Lo → List O → R Bool) (me : Lo → List O → R W) (ℓ0 : Lo) : W → List O → R (Option W) := fun w h => (mt w ℓ0 h).bind fun ℓ2 h => (mf ℓ2 h).bind fun k h =>
      if k = true then (me ℓ2 h).bind fun y h => .ok (some y) h else .ok none h
theorem e_lcomp {elt iter : Expr} {ifs : List Expr} {scope : Scope} {own : List (Str × Nat)} {T : List Nat} {mi : Lo → List O → R (List W × Gd)} {mt : Tg} {mf : Lo → List O → R Bool} {me : Lo → List O → R W} (g : Gx G lvl c X)
    (hi : PI X tg iter (tI G Wx mi)) (ok : BlkOk X.N X.env.scope scope own) (hT : ∀ i ∈ T, i ∈ own.map (·.2))
    (hg : ∀ (s : Shared) (H : Hp) (A0 : Addr) (cl : List (Str × Addr)) (fp : List Addr), PG (X.blk s H scope (compEnvC scope cl A0 X.env) fp) tg (tG G T mt))
    (ht : ∀ (s : Shared) (H : Hp) (A0 : Addr) (cl : List (Str × Addr)) (fp : List Addr), PTs (X.blk s H scope (compEnvC scope cl A0 X.env) fp) ifs (tT G WF mf))
    (he : ∀ (s : Shared) (H : Hp) (A0 : Addr) (cl : List (Str × Addr)) (fp : List Addr), PE (X.blk s H scope (compEnvC scope cl A0 X.env) fp) elt (tV G WF me)) :
    ∀ σ H Q, tL G Wx (fun ℓ h => (mi ℓ h).bind fun r h => lcLoop (lcF mt mf me (wipeL ℓ (own.map (·.2)))) r.2 0 r.1 h) σ H Q → tLc (tI G Wx mi) (tG G T mt) (tT G WF mf) (tV G WF me) (own.map (·.2)) σ H Q := by
  intro σ H Q ⟨ι, hh, ℓ, r, lr, p⟩
  refine ⟨ι, hh, ℓ, r, lr, (Post.bind0 p).imp fun rr h1 ι1 H1 s1 r1 p1 J wk D hD => ?_⟩
  obtain ⟨ws, gs⟩ := rr
  have hD0 : H D = none := s1.back hD
  have nD1 : D ∉ ι1 := r1.fresh hD
  have sD : Step ι H ι1 (upd H1 D (.lst [])) := s1.trans (Step.new hD)
  refine ⟨fun i m H2 => ∃ ι2 h2 acc accW, Step ι H ι2 H2 ∧ Step ι1 H1 ι2 H2 ∧ Rel G h2 ι2 H2 ∧ D ∉ ι2 ∧ H2 D = some (.lst acc) ∧ VRs G H2 ι2 accW acc ∧ i ≤ ws.length ∧ m = ws.length - i ∧
    Post G Wx σ ι H (lcLoop (lcF mt mf me (wipeL ℓ (own.map (·.2)))) gs accW.length (ws.drop i) h2) (fun rest _ ι' H' => ∀ vs, H' D = some (.lst vs) → D ∉ ι' → VRs G H' ι' (accW ++ rest) vs → Q (.ref D) H'), ⟨ws.length, ι1, h1, [], [], sD, Step.new hD, r1.new hD, nD1, upd_same, .nil, Nat.zero_le _, by simp, ?_⟩, ?_⟩
  · exact p1.imp fun rest h' ι' H' s' r' k vs e n hv => k D vs hD0 n e hv
  · rintro i m H2 ⟨ι2, h2, acc, accW, sb, s2, r2, nD, eD, hacc, hi', rfl, p2⟩
    by_cases hlt : i < ws.length
    · have hw : ws[i]? = some ws[i] := by simp [hlt]
      rw [List.drop_eq_getElem_cons hlt] at p2
      unfold lcLoop at p2
      obtain ⟨cg, p2⟩ := p2.chk
      refine .inr ⟨wk.goes i _ h2 ι2 H2 s2 r2 cg hw, fun H3 => ∃ m', m' < ws.length - i ∧ ∃ ι2 h2 acc accW, Step ι H ι2 H3 ∧ Step ι1 H1 ι2 H3 ∧ Rel G h2 ι2 H3 ∧ D ∉ ι2 ∧ H3 D = some (.lst acc) ∧ VRs G H3 ι2 accW acc ∧ i + 1 ≤ ws.length ∧ m' = ws.length - (i + 1) ∧
        Post G Wx σ ι H (lcLoop (lcF mt mf me (wipeL ℓ (own.map (·.2)))) gs accW.length (ws.drop (i + 1)) h2) (fun rest _ ι' H' => ∀ vs, H' D = some (.lst vs) → D ∉ ι' → VRs G H' ι' (accW ++ rest) vs → Q (.ref D) H'), fun H' z => z, fun x H3 y => ?_⟩
      obtain ⟨s3, r3, hx⟩ := wk.yields i _ h2 ι2 H2 x H3 s2 r2 cg hw y
      have p3 : Post G WF (wipe σ (own.map (·.2))) ι2 H3 (lcF mt mf me (wipeL ℓ (own.map (·.2))) ws[i] h2) _ := (Post.noX p2.bind0).later (sb.trans s3)
      refine ⟨ι2, h2, _, _, r3, (lr.mono (sb.trans s3)).wipe _, hx, (Post.bind p3).imp fun ℓ4 h4 ι4 H4 s4 r4 p4 σ4 lr4 sl4 => ?_⟩
      refine ⟨sl4.wipe hT, ι4, h4, ℓ4, r4, lr4, (Post.anyX (Post.bind p4)).imp fun k h5 ι5 H5 s5 r5 p5 => ?_⟩
      have nD3 := s3.notin (by rw [eD]; exact fun z => nomatch z) nD
      have eD3 := s3.keep D _ eD nD
      have nD4 := s4.notin (by rw [eD3]; exact fun z => nomatch z) nD3
      have eD4 := s4.keep D _ eD3 nD3
      have nD5 := s5.notin (by rw [eD4]; exact fun z => nomatch z) nD4
      have eD5 := s5.keep D _ eD4 nD4
      have sx5 : Step ι2 H2 ι5 H5 := (s3.trans s4).trans s5
      cases k with
      | true =>
        rw [if_pos rfl] at p5
        refine iteT ⟨ι5, h5, ℓ4, r5, lr4.mono s5, (Post.anyX (Post.bind p5)).imp fun yw h6 ι6 H6 s6 r6 p6 yv hy => ?_⟩
        have nD6 := s6.notin (by rw [eD5]; exact fun z => nomatch z) nD5
        have eD6 := s6.keep D _ eD5 nD5
        have p7 := p6.ok r6
        obtain ⟨ck, p7⟩ := p7.chk
        have hlen := hacc.length
        refine ⟨acc, eD6, by rw [← hlen]; exact of_decide_eq_true ck, ws.length - (i + 1), by omega, ?_⟩
        have sx6 : Step ι2 H2 ι6 H6 := sx5.trans s6
        obtain ⟨sa, ma⟩ := (sb.trans sx6).apart (o := .lst (acc ++ [yv])) hD0 eD6 (fun xs z => nomatch z) (fun ob x z => nomatch z)
        obtain ⟨sa1, _⟩ := (s2.trans sx6).apart (o := .lst (acc ++ [yv])) hD eD6 (fun xs z => nomatch z) (fun ob x z => nomatch z)
        refine ⟨ι6, h6, acc ++ [yv], accW ++ [yw], sa, sa1, r6.mon ma fun a ha => upd_ne fun z => nD6 (by rw [← z]; exact ha), nD6, upd_same, (((hacc.mono sx6).append (.cons hy .nil)).mon ma), by omega, rfl, ?_⟩
        rw [List.length_append, List.length_singleton]
        refine p7.bind0.imp fun rest h' ι' H' s' r' k vs e n hv => ?_
        exact k ι' H' s' r' vs e n (by rw [List.append_assoc] at hv; exact hv)
      | false =>
        rw [if_neg Bool.false_ne_true] at p5
        have p7 := p5.ok r5
        exact iteF ⟨ws.length - (i + 1), by omega, ι5, h5, acc, accW, sb.trans sx5, s2.trans sx5, r5, nD5, eD5, hacc.mono sx5, by omega, rfl, p7⟩
    · have e : i = ws.length := by omega
      subst e
      rw [List.drop_length] at p2
      unfold lcLoop at p2
      obtain ⟨cg, p2⟩ := p2.chk
      refine .inl ⟨wk.stops h2 ι2 H2 s2 r2 cg, p2 ι2 H2 sb r2 acc eD nD (by rw [List.append_nil]; exact hacc)⟩
end
end MP
set_option maxRecDepth 100000
set_option maxHeartbeats 4000000
namespace MP
open PySem PySem.Spec PyProof.Rows L2

/-! ### statements -/
inductive Fl where
  | nx | rt (w : W) | bk | ct
inductive RS where
  | ok (f : Fl) (ℓ : Lo) (h : List O)
  | exc (x : Exn) (ℓ : Lo) (h : List O)
  | stuck
def liftE {α : Type} (ℓ : Lo) (r : R α) (f : α → List O → RS) (_t : Tag f := .mk) : RS := match r with
  | .ok a h => f a h
  | .exc x h => .exc x ℓ h
  | .stuck => .stuck
@[simp] theorem liftE_ok {α : Type} (ℓ : Lo) (a : α) (h : List O) (f : α → List O → RS) : liftE ℓ (.ok a h) f = f a h := rfl
@[simp] theorem liftE_exc {α : Type} (ℓ : Lo) (x : Exn) (h : List O) (f : α → List O → RS) : liftE ℓ (.exc x h : R α) f = .exc x ℓ h := rfl
def seqS (r : RS) (f : Lo → List O → RS) : RS := match r with
  | .ok .nx ℓ h => f ℓ h
  | r => r
@[simp] theorem seqS_nx (ℓ : Lo) (h : List O) (f : Lo → List O → RS) : seqS (.ok .nx ℓ h) f = f ℓ h := rfl
@[simp] theorem seqS_rt (w : W) (ℓ : Lo) (h : List O) (f : Lo → List O → RS) : seqS (.ok (.rt w) ℓ h) f = .ok (.rt w) ℓ h := rfl
@[simp] theorem seqS_bk (ℓ : Lo) (h : List O) (f : Lo → List O → RS) : seqS (.ok .bk ℓ h) f = .ok .bk ℓ h := rfl
@[simp] theorem seqS_ct (ℓ : Lo) (h : List O) (f : Lo → List O → RS) : seqS (.ok .ct ℓ h) f = .ok .ct ℓ h := rfl
@[simp] theorem seqS_exc (x : Exn) (ℓ : Lo) (h : List O) (f : Lo → List O → RS) : seqS (.exc x ℓ h) f = .exc x ℓ h := rfl
/-- behind a turn of a loop -/
def turnS (r : RS) (f : Lo → List O → RS) : RS := match r with
  | .ok .nx ℓ h => f ℓ h
  | .ok .ct ℓ h => f ℓ h
  | .ok .bk ℓ h => .ok .nx ℓ h
  | r => r
@[simp] theorem turnS_nx (ℓ : Lo) (h : List O) (f : Lo → List O → RS) : turnS (.ok .nx ℓ h) f = f ℓ h := rfl
@[simp] theorem turnS_ct (ℓ : Lo) (h : List O) (f : Lo → List O → RS) : turnS (.ok .ct ℓ h) f = f ℓ h := rfl
@[simp] theorem turnS_bk (ℓ : Lo) (h : List O) (f : Lo → List O → RS) : turnS (.ok .bk ℓ h) f = .ok .nx ℓ h := rfl
@[simp] theorem turnS_rt (w : W) (ℓ : Lo) (h : List O) (f : Lo → List O → RS) : turnS (.ok (.rt w) ℓ h) f = .ok (.rt w) ℓ h := rfl
@[simp] theorem turnS_exc (x : Exn) (ℓ : Lo) (h : List O) (f : Lo → List O → RS) : turnS (.exc x ℓ h) f = .exc x ℓ h := rfl
def chkS (b : Bool) (r : RS) : RS := if b = true then r else .stuck
@[simp] theorem chkS_true (r : RS) : chkS true r = r := rfl
def forL (f : W → Lo → List O → RS) (gs : Gd) : List W → Lo → List O → RS
  | [], ℓ, h => chkS (gsOk h gs) (.ok .nx ℓ h)
  | w :: ws, ℓ, h => chkS (gsOk h gs) (turnS (f w ℓ h) (forL f gs ws))
def whileL (c : Lo → List O → R Bool) (f : Lo → List O → RS) : Nat → Lo → List O → RS
  | 0, _, _ => .stuck
  | n + 1, ℓ, h => liftE ℓ (c ℓ h) fun b h => if b = true then turnS (f ℓ h) (whileL c f n) else .ok .nx ℓ h
/-- an exception met by a clause -/
structure Cc where
  cn : Cn
  /-- is the first class one of the second -/
  isA : Str → Str → Bool
mutual
def evS (C : Cc) : Ms → Lo → List O → RS
  | .asg t e => fun ℓ h => liftE ℓ ((ev C.cn e).v ℓ h) fun w h => liftE ℓ (noX (evt C.cn t w ℓ h)) fun ℓ h => .ok .nx ℓ h
  | .par i j a b => fun ℓ h => liftE ℓ ((ev C.cn a).v ℓ h) fun x h => liftE ℓ ((ev C.cn b).v ℓ h) fun y h => .ok .nx ((ℓ.set i (some x)).set j (some y)) h
  | .expr e => fun ℓ h => liftE ℓ ((ev C.cn e).v ℓ h) fun _ h => .ok .nx ℓ h
  | .ret e => fun ℓ h => liftE ℓ ((ev C.cn e).v ℓ h) fun w h => .ok (.rt w) ℓ h
  | .retN => fun ℓ h => .ok (.rt .non) ℓ h
  | .pass => fun ℓ h => .ok .nx ℓ h
  | .brk => fun ℓ h => .ok .bk ℓ h
  | .cont => fun ℓ h => .ok .ct ℓ h
  | .ife c a b => fun ℓ h => liftE ℓ ((ev C.cn c).t ℓ h) fun k h => if k = true then evSs C a ℓ h else evSs C b ℓ h
  | .for t s b => fun ℓ h => liftE ℓ (evi C.cn s ℓ h) fun r h => forL (fun w ℓ h => liftE ℓ (noX (evt C.cn t w ℓ h)) fun ℓ h => evSs C b ℓ h) r.2 r.1 ℓ h
  | .while c b => fun ℓ h => whileL (ev C.cn c).t (evSs C b) C.cn.fuel ℓ h
  | .raise c es => fun ℓ h => liftE ℓ (evs C.cn es ℓ h) fun ws h => match ws with
    | [w] => .exc ⟨c, []⟩ ℓ h
    | _ => .stuck
  | .try b c i s => fun ℓ h => match evSs C b ℓ h with
    | .ok f ℓ h => .ok f ℓ h
    | .exc x ℓ h => .stuck
    | .stuck => .stuck
def evSs (C : Cc) : Mss → Lo → List O → RS
  | .nil => fun ℓ h => .ok .nx ℓ h
  | .cons s .nil => evS C s
  | .cons s (.cons s2 ss) => fun ℓ h => seqS (evS C s ℓ h) (evSs C (.cons s2 ss))
end

/-! ### ends -/
def PostS (G : Pg) (Wx : WX) (ι : List Addr) (H : Hp) (r : RS) (k : Fl → Lo → List O → List Addr → Hp → L2.St → Prop) : Prop := match r with
  | .ok f ℓ h' => ∀ ι' H' σ', Step ι H ι' H' → Rel G h' ι' H' → LR G H' ι' ℓ σ' → k f ℓ h' ι' H' σ'
  | .exc x ℓ h' => ∀ ι' H' σ' cls d, Step ι H ι' H' → Rel G h' ι' H' → LR G H' ι' ℓ σ' → XR G H' ι' x cls d → Wx cls d σ' H'
  | .stuck => False
/-- the ends as told -/
def DK (G : Pg) (D : Ends) : Fl → Lo → List O → List Addr → Hp → L2.St → Prop := fun f _ _ ι H σ => match f with
  | .nx => D.nx σ H
  | .rt w => ∀ v, VR G H ι w v → D.rt v H
  | .bk => D.bk σ H
  | .ct => D.ct σ H
section
variable {G : Pg} {Wx : WX} {ι ι1 : List Addr} {H H1 : Hp} {σ : L2.St} {ℓ : Lo} {h : List O} {k k' : Fl → Lo → List O → List Addr → Hp → L2.St → Prop}
theorem PostS.imp {r : RS} (p : PostS G Wx ι H r k) (f : ∀ f ℓ h' ι' H' σ', Step ι H ι' H' → Rel G h' ι' H' → LR G H' ι' ℓ σ' → k f ℓ h' ι' H' σ' → k' f ℓ h' ι' H' σ') : PostS G Wx ι H r k' := by
  cases r with
  | ok a ℓ h' => exact fun ι' H' σ' s q l => f a ℓ h' ι' H' σ' s q l (p ι' H' σ' s q l)
  | exc x ℓ h' => exact p
  | stuck => exact p
theorem PostS.later {r : RS} (p : PostS G Wx ι H r k) (s : Step ι H ι1 H1) : PostS G Wx ι1 H1 r k := by
  cases r with
  | ok a ℓ h' => exact fun ι' H' σ' t q l => p ι' H' σ' (s.trans t) q l
  | exc x ℓ h' => exact fun ι' H' σ' cls d t q l => p ι' H' σ' cls d (s.trans t) q l
  | stuck => exact p
theorem PostS.lift {α : Type} {r : R α} {f : α → List O → RS} (p : PostS G Wx ι H (liftE ℓ r f) k) (lr : LR G H ι ℓ σ) : Post G Wx σ ι H r fun a h1 ι1 H1 => PostS G Wx ι1 H1 (f a h1) k := by
  cases r with
  | ok a h' =>
    intro ι' H' s q
    have p' : PostS G Wx ι H (f a h') k := p
    exact p'.later s
  | exc x h' => exact fun ι' H' cls d s q x => p ι' H' σ cls d s q (lr.mono s) x
  | stuck => exact p
theorem PostS.ok {f : Fl} (p : PostS G Wx ι H (.ok f ℓ h) k) (r : Rel G h ι H) (l : LR G H ι ℓ σ) : k f ℓ h ι H σ := p ι H σ .refl r l
theorem PostS.chk {b : Bool} {r : RS} (p : PostS G Wx ι H (chkS b r) k) : b = true ∧ PostS G Wx ι H r k := by
  cases b with
  | true => exact ⟨rfl, p⟩
  | false => exact False.elim p
end
/-- a statement -/
def tSt (G : Pg) (Wx : WX) (m : Lo → List O → RS) : TS := fun D σ H => ∃ ι h ℓ, Rel G h ι H ∧ LR G H ι ℓ σ ∧ PostS G Wx ι H (m ℓ h) (DK G D)
section
variable {G : Pg} {lvl : Nat} {c : Ctx} {X : Cx} {Wx : WX} {C : Cc} {a b d e tg : Expr} {es : List Expr} {pos p p2 apos : Pos} {sa sb sc : Sm} {st : Stmt} {sts stb : List Stmt}
structure Sx (G : Pg) (lvl : Nat) (c : Ctx) (X : Cx) (Wx : WX) : Prop where
  g : Gx G lvl c X
  tk : Takes X Wx
  ps : PassesOwn (model X.prog X.w) X.A X.env X.xe
  stk : X.stack = X.env :: X.outer
  fr : X.env.frame = some X.env.locals
  sn : c.sets = c.names

theorem s_nil : PSs X [] (tSt G Wx fun ℓ h => .ok .nx ℓ h) := PSs.imp pss_nil fun D σ H ⟨ι, hh, ℓ, r, lr, p⟩ => p.ok r lr
theorem s_one {m : Lo → List O → RS} (h : PS X st (tSt G Wx m)) : PSs X [st] (tSt G Wx m) := pss_one h
theorem s_cons {m ms : Lo → List O → RS} (h : PS X st (tSt G Wx m)) (hr : PSs X sts (tSt G Wx ms)) : PSs X (st :: sts) (tSt G Wx fun ℓ h => seqS (m ℓ h) ms) := by
  refine PSs.imp (pss_cons h hr) fun D σ H ⟨ι, hh, ℓ, r, lr, p⟩ => ?_
  refine ⟨ι, hh, ℓ, r, lr, ?_⟩
  have p : PostS G Wx ι H (seqS (m ℓ hh) ms) (DK G D) := p
  revert p
  cases m ℓ hh with
  | stuck => exact fun p => p
  | exc x ℓ' h' => exact fun p => p
  | ok f ℓ' h' =>
    cases f with
    | nx =>
      intro p ι' H' σ' s q l
      have p' : PostS G Wx ι H (ms ℓ' h') (DK G D) := p
      exact ⟨ι', h', ℓ', q, l, p'.later s⟩
    | rt w => exact fun p => p
    | bk => exact fun p => p
    | ct => exact fun p => p
/-- the value is no comprehension -/
def notComp : Expr → Bool | .ListComp _ _ _ _ => false | .SetComp _ _ _ _ => false | .DictComp _ _ _ _ _ => false | _ => true
def notName : Expr → Bool | .Name _ _ => false | _ => true
theorem sw_ok {t : Option Expr} {l : Nat} {env : Env} (h : notComp e = true) : swapsWith e t l env = pure false := by
  cases e <;> first | rfl | exact absurd h Bool.false_ne_true
theorem sw_okT {l : Nat} {env : Env} (h : notName tg = true) : swapsWith e (some tg) l env = pure false := by
  cases e <;> cases tg <;> first | rfl | exact absurd h Bool.false_ne_true
def notPar : Expr → Expr → Bool | .Tuple _ _ _, .Tuple _ _ _ => false | .List _ _, .Tuple _ _ _ => false | _, _ => true
theorem st_ok {env : Env} (h : notPar tg e = true) : swappedStores [tg] e env = pure none := by
  cases tg <;> cases e <;> first | rfl | exact absurd h Bool.false_ne_true
theorem s_asg' {T : List Nat} {mv : Lo → List O → R W} {mt : Tg} (he : PE X e (tV G Wx mv)) (hg : PG X tg (tG G T mt)) (hs : (notComp e || notName tg) = true) (hw : swappedStores [tg] e X.env = pure none) (hn : notStar tg = true) :
    PS X (.Assign [tg] e pos) (tSt G Wx fun ℓ h => liftE ℓ (mv ℓ h) fun w h => liftE ℓ (noX (mt w ℓ h)) fun ℓ h => .ok .nx ℓ h) := by
  refine PS.imp (ps_asg he hg (hs := ?_) (hw := hw) (h1 := by rw [assign_ok hn]; rfl)) fun D σ H ⟨ι, hh, ℓ, r, lr, p⟩ => ?_
  · show swapsWith e (some tg) pos.line X.env = pure false
    rw [Bool.or_eq_true] at hs
    rcases hs with hs | hs
    · exact sw_ok hs
    · exact sw_okT hs
  · refine ⟨ι, hh, ℓ, r, lr, (PostS.lift p lr).imp fun w h1 ι1 H1 s1 r1 p1 v hv => ?_⟩
    refine ⟨ι1, h1, ℓ, w, r1, lr.mono s1, hv, (Post.noX (p1.lift (lr.mono s1))).imp fun ℓ2 h2 ι2 H2 s2 r2 p2 σ2 lr2 sl2 => ?_⟩
    exact p2.ok r2 lr2
theorem s_asg {T : List Nat} {mv : Lo → List O → R W} {mt : Tg} (he : PE X e (tV G Wx mv)) (hg : PG X tg (tG G T mt)) (hs : (notComp e || notName tg) = true) (hw : notPar tg e = true) (hn : notStar tg = true) :
    PS X (.Assign [tg] e pos) (tSt G Wx fun ℓ h => liftE ℓ (mv ℓ h) fun w h => liftE ℓ (noX (mt w ℓ h)) fun ℓ h => .ok .nx ℓ h) := s_asg' he hg hs (st_ok hw) hn
theorem s_expr {mv : Lo → List O → R W} (he : PE X e (tV G Wx mv)) (hs : notComp e = true) : PS X (.Expr e pos) (tSt G Wx fun ℓ h => liftE ℓ (mv ℓ h) fun _ h => .ok .nx ℓ h) := by
  refine PS.imp (ps_expr he (hs := sw_ok hs)) fun D σ H ⟨ι, hh, ℓ, r, lr, p⟩ => ?_
  exact ⟨ι, hh, ℓ, r, lr, (PostS.lift p lr).imp fun w h1 ι1 H1 s1 r1 p1 v hv => p1.ok r1 (lr.mono s1)⟩
theorem s_ret {mv : Lo → List O → R W} (he : PE X e (tV G Wx mv)) : PS X (.Return (some e) pos) (tSt G Wx fun ℓ h => liftE ℓ (mv ℓ h) fun w h => .ok (.rt w) ℓ h) := by
  refine PS.imp (ps_ret he) fun D σ H ⟨ι, hh, ℓ, r, lr, p⟩ => ?_
  exact ⟨ι, hh, ℓ, r, lr, (PostS.lift p lr).imp fun w h1 ι1 H1 s1 r1 p1 v hv => p1.ok r1 (lr.mono s1) v hv⟩
theorem s_retN : PS X (.Return none pos) (tSt G Wx fun ℓ h => .ok (.rt .non) ℓ h) := PS.imp ps_retN fun D σ H ⟨ι, hh, ℓ, r, lr, p⟩ => p.ok r lr .non .non
theorem s_pass : PS X (.Pass pos) (tSt G Wx fun ℓ h => .ok .nx ℓ h) := PS.imp ps_pass fun D σ H ⟨ι, hh, ℓ, r, lr, p⟩ => p.ok r lr
theorem s_brk : PS X (.Break pos) (tSt G Wx fun ℓ h => .ok .bk ℓ h) := PS.imp ps_break fun D σ H ⟨ι, hh, ℓ, r, lr, p⟩ => p.ok r lr
theorem s_cont : PS X (.Continue pos) (tSt G Wx fun ℓ h => .ok .ct ℓ h) := PS.imp ps_continue fun D σ H ⟨ι, hh, ℓ, r, lr, p⟩ => p.ok r lr
theorem s_if {mc : Lo → List O → R Bool} {ma mb : Lo → List O → RS} (hc : PT X e (tT G Wx mc)) (ha : PSs X sts (tSt G Wx ma)) (hb : PSs X stb (tSt G Wx mb)) :
    PS X (.If e sts stb pos) (tSt G Wx fun ℓ h => liftE ℓ (mc ℓ h) fun k h => if k = true then ma ℓ h else mb ℓ h) := by
  refine PS.imp (ps_if hc ha hb) fun D σ H ⟨ι, hh, ℓ, r, lr, p⟩ => ?_
  refine ⟨ι, hh, ℓ, r, lr, (PostS.lift p lr).imp fun k h1 ι1 H1 s1 r1 p1 => ?_⟩
  cases k with
  | true => exact iteT ⟨ι1, h1, ℓ, r1, lr.mono s1, p1⟩
  | false => exact iteF ⟨ι1, h1, ℓ, r1, lr.mono s1, p1⟩
/-- behind a turn -/
theorem turn_ends {r : RS} {f : Lo → List O → RS} {ι : List Addr} {H : Hp} {D : Ends} {N : L2.St → Hp → Prop} (p : PostS G Wx ι H (turnS r f) (DK G D)) (hN : ∀ ℓ1 h1 ι1 H1 σ1, Step ι H ι1 H1 → Rel G h1 ι1 H1 → LR G H1 ι1 ℓ1 σ1 → PostS G Wx ι1 H1 (f ℓ1 h1) (DK G D) → N σ1 H1) :
    PostS G Wx ι H r (DK G { D with nx := N, ct := N, bk := D.nx }) := by
  cases r with
  | stuck => exact p
  | exc x ℓ' h' => exact p
  | ok fl ℓ' h' =>
    cases fl with
    | nx => exact fun ι' H' σ' s q l => hN ℓ' h' ι' H' σ' s q l (PostS.later (show PostS G Wx ι H (f ℓ' h') (DK G D) from p) s)
    | ct => exact fun ι' H' σ' s q l => hN ℓ' h' ι' H' σ' s q l (PostS.later (show PostS G Wx ι H (f ℓ' h') (DK G D) from p) s)
    | rt w => exact p
    | bk => exact p
theorem s_for {T : List Nat} {mi : Lo → List O → R (List W × Gd)} {mt : Tg} {mb : Lo → List O → RS} (S : Sx G lvl c X Wx) (hi : PI X tg e (tI G Wx mi)) (hg : PG X tg (tG G T mt)) (hb : PSs X sts (tSt G Wx mb)) (hs : notSet e = true) :
    PS X (.For tg e sts [] pos) (tSt G Wx fun ℓ h => liftE ℓ (mi ℓ h) fun r h => forL (fun w ℓ h => liftE ℓ (noX (mt w ℓ h)) fun ℓ h => mb ℓ h) r.2 r.1 ℓ h) := by
  refine PS.imp (ps_for S.ps S.g.calm hi hg hb (hs := fold_ok hs)) fun D σ H ⟨ι, hh, ℓ, r, lr, p⟩ => ?_
  refine ⟨ι, hh, ℓ, r, lr, (PostS.lift p lr).imp fun rr h1 ι1 H1 s1 r1 p1 J wk => ?_⟩
  obtain ⟨ws, gs⟩ := rr
  refine ⟨fun i m σ2 H2 => ∃ ι2 h2 ℓ2, Step ι1 H1 ι2 H2 ∧ Rel G h2 ι2 H2 ∧ LR G H2 ι2 ℓ2 σ2 ∧ i ≤ ws.length ∧ m = ws.length - i ∧ PostS G Wx ι2 H2 (forL (fun w ℓ h => liftE ℓ (noX (mt w ℓ h)) fun ℓ h => mb ℓ h) gs (ws.drop i) ℓ2 h2) (DK G D),
    ⟨ws.length, ι1, h1, ℓ, .refl, r1, lr.mono s1, Nat.zero_le _, by simp, p1⟩, ?_⟩
  rintro i m σ2 H2 ⟨ι2, h2, ℓ2, s2, r2, lr2, hi', rfl, p2⟩
  by_cases hlt : i < ws.length
  · have hw : ws[i]? = some ws[i] := by simp [hlt]
    rw [List.drop_eq_getElem_cons hlt] at p2
    unfold forL at p2
    obtain ⟨cg, p2⟩ := p2.chk
    refine .inr ⟨wk.goes i _ h2 ι2 H2 s2 r2 cg hw, fun σ3 H3 => ∃ m', m' < ws.length - i ∧ ∃ ι2 h2 ℓ2, Step ι1 H1 ι2 H3 ∧ Rel G h2 ι2 H3 ∧ LR G H3 ι2 ℓ2 σ3 ∧ i + 1 ≤ ws.length ∧ m' = ws.length - (i + 1) ∧ PostS G Wx ι2 H3 (forL (fun w ℓ h => liftE ℓ (noX (mt w ℓ h)) fun ℓ h => mb ℓ h) gs (ws.drop (i + 1)) ℓ2 h2) (DK G D), fun _ _ z => z, fun x H3 y => ?_⟩
    obtain ⟨s3, r3, hx⟩ := wk.yields i _ h2 ι2 H2 x H3 s2 r2 cg hw y
    have p3 := turn_ends (N := fun σ3 H3 => ∃ m', m' < ws.length - i ∧ ∃ ι2 h2 ℓ2, Step ι1 H1 ι2 H3 ∧ Rel G h2 ι2 H3 ∧ LR G H3 ι2 ℓ2 σ3 ∧ i + 1 ≤ ws.length ∧ m' = ws.length - (i + 1) ∧ PostS G Wx ι2 H3 (forL (fun w ℓ h => liftE ℓ (noX (mt w ℓ h)) fun ℓ h => mb ℓ h) gs (ws.drop (i + 1)) ℓ2 h2) (DK G D)) (p2.later s3)
      fun ℓ4 h4 ι4 H4 σ4 s4 r4 lr4 p4 => ⟨ws.length - (i + 1), by omega, ι4, h4, ℓ4, (s2.trans s3).trans s4, r4, lr4, by omega, rfl, p4⟩
    refine ⟨ι2, h2, ℓ2, ws[i], r3, lr2.mono s3, hx, (Post.noX (p3.lift (lr2.mono s3))).imp fun ℓ4 h4 ι4 H4 s4 r4 p4 σ4 lr4 _ => ?_⟩
    exact ⟨ι4, h4, ℓ4, r4, lr4, p4⟩
  · have e : i = ws.length := by omega
    subst e
    rw [List.drop_length] at p2
    unfold forL at p2
    obtain ⟨cg, p2⟩ := p2.chk
    exact .inl ⟨wk.stops h2 ι2 H2 s2 r2 cg, p2.ok r2 lr2⟩
theorem s_while {mc : Lo → List O → R Bool} {mb : Lo → List O → RS} {fuel : Nat} (S : Sx G lvl c X Wx) (hc : PT X e (tT G Wx mc)) (hb : PSs X sts (tSt G Wx mb)) :
    PS X (.While e sts [] pos) (tSt G Wx fun ℓ h => whileL mc mb fuel ℓ h) := by
  refine PS.imp (ps_while S.ps hc hb) fun D σ H ⟨ι, hh, ℓ, r, lr, p⟩ => ?_
  refine ⟨fun m σ2 H2 => ∃ ι2 h2 ℓ2, Rel G h2 ι2 H2 ∧ LR G H2 ι2 ℓ2 σ2 ∧ PostS G Wx ι2 H2 (whileL mc mb m ℓ2 h2) (DK G D), ⟨fuel, ι, hh, ℓ, r, lr, p⟩, ?_⟩
  rintro m σ2 H2 ⟨ι2, h2, ℓ2, r2, lr2, p2⟩
  cases m with
  | zero => exact False.elim p2
  | succ m =>
    unfold whileL at p2
    refine ⟨ι2, h2, ℓ2, r2, lr2, (p2.lift lr2).imp fun k h3 ι3 H3 s3 r3 p3 => ?_⟩
    cases k with
    | true =>
      refine iteT ⟨fun σ4 H4 => ∃ m', m' < m + 1 ∧ ∃ ι2 h2 ℓ2, Rel G h2 ι2 H4 ∧ LR G H4 ι2 ℓ2 σ4 ∧ PostS G Wx ι2 H4 (whileL mc mb m' ℓ2 h2) (DK G D), fun _ _ z => z, ι3, h3, ℓ2, r3, lr2.mono s3, ?_⟩
      exact turn_ends (show PostS G Wx ι3 H3 (turnS (mb ℓ2 h3) (whileL mc mb m)) (DK G D) from p3) fun ℓ4 h4 ι4 H4 σ4 s4 r4 lr4 p4 => ⟨m, Nat.lt_succ_self _, ι4, h4, ℓ4, r4, lr4, p4⟩
    | false => exact iteF ((show PostS G Wx ι3 H3 (.ok .nx ℓ2 h3) (DK G D) from p3).ok r3 (lr2.mono s3))
theorem s_par {i j : Nat} {x y : Str} {px py pt pt2 : Pos} {kt k2 : Nat} {ma mb : Lo → List O → R W} (g : Gx G lvl c X) (hi : c.N[i]? = some x) (hj : c.N[j]? = some y) (hij : i ≠ j) (hx : c.names.lookup x = some .local) (hy : c.names.lookup y = some .local)
    (ha : PE X a (tV G Wx ma)) (hb : PE X b (tV G Wx mb)) (hst : ([a, b] : List Expr).all notStar = true) (hw : ∀ env : Env, env.scope.kind = .function → env.scope.names = c.names → swappedStores [.Tuple [.Name x px, .Name y py] kt pt] (.Tuple [a, b] k2 pt2) env = pure (some [x, y])) :
    PS X (.Assign [.Tuple [.Name x px, .Name y py] kt pt] (.Tuple [a, b] k2 pt2) pos) (tSt G Wx fun ℓ h => liftE ℓ (ma ℓ h) fun x h => liftE ℓ (mb ℓ h) fun y h => .ok .nx ((ℓ.set i (some x)).set j (some y)) h) := by
  rw [List.all_cons, List.all_cons, Bool.and_eq_true, Bool.and_eq_true] at hst
  refine PS.imp (ps_par g.calm (by rw [g.N]; exact g.nd) (by rw [g.N]; exact hi) (by rw [g.N]; exact hj) hij (by rw [g.nm]; exact hx) (by rw [g.nm]; exact hy) (pa_cons ha (pa_cons hb pa_nil (star_ok hst.2.1)) (star_ok hst.1)) (hw X.env g.kd g.nm) (hs := by rfl)) fun D σ H ⟨ι, hh, ℓ, r, lr, p⟩ => ?_
  refine ⟨ι, hh, ℓ, r, lr, (PostS.lift p lr).imp fun w h1 ι1 H1 s1 r1 p1 v hv => ?_⟩
  refine ⟨ι1, h1, ℓ, r1, lr.mono s1, (p1.lift (lr.mono s1)).imp fun w2 h2 ι2 H2 s2 r2 p2 u hu => ?_⟩
  exact ⟨v, u, rfl, p2.ok r2 ((((lr.mono s1).mono s2).set (hv.mono s2)).set hu)⟩
theorem s_setLc {i : Nat} {y : Str} {py : Pos} {elt iter : Expr} {ifs : List Expr} {scope : Scope} {own : List (Str × Nat)} {T : List Nat} {mi : Lo → List O → R (List W × Gd)} {mt : Tg} {mf : Lo → List O → R Bool} {me : Lo → List O → R W} (g : Gx G lvl c X)
    (hy : c.N[i]? = some y) (hyl : c.names.lookup y = some .local) (hl : (py.line == p.line) = true) (hno : (scope.names.any fun (n, k) => n == y && (k == .local || k == .cell)) = false)
    (hi : PI X tg iter (tI G Wx mi)) (ok : BlkOk X.N X.env.scope scope own) (hT : ∀ i ∈ T, i ∈ own.map (·.2))
    (hg : ∀ (s : Shared) (H : Hp) (A0 : Addr) (cl : List (Str × Addr)) (fp : List Addr), PG (X.blk s H scope (compEnvC scope cl A0 X.env) fp) tg (tG G T mt))
    (ht : ∀ (s : Shared) (H : Hp) (A0 : Addr) (cl : List (Str × Addr)) (fp : List Addr), PTs (X.blk s H scope (compEnvC scope cl A0 X.env) fp) ifs (tT G WF mf))
    (he : ∀ (s : Shared) (H : Hp) (A0 : Addr) (cl : List (Str × Addr)) (fp : List Addr), PE (X.blk s H scope (compEnvC scope cl A0 X.env) fp) elt (tV G WF me)) (hs : notSet iter = true) :
    PS X (.Assign [.Name y py] (.ListComp elt [⟨tg, iter, ifs, 0⟩] scope p) pos) (tSt G Wx fun ℓ h => liftE ℓ (((mi ℓ h).bind fun r h => lcLoop (lcF mt mf me (wipeL ℓ (own.map (·.2)))) r.2 0 r.1 h).bind fun ws h => alloc (.lst ws) h) fun w h => liftE ℓ (noX (.ok (ℓ.set i (some w)) h)) fun ℓ h => .ok .nx ℓ h) := by
  refine PS.imp (ps_setLc (i := i) g.calm (by rw [g.N]; exact g.nd) (by rw [g.N]; exact hy) (by rw [g.nm]; exact hyl) (sw_true g.kd (by rw [g.nm]; exact hyl) hl hno) hi ok hg ht he (hs := fold_ok hs)) fun D σ H ⟨ι, hh, ℓ, r, lr, p⟩ => ?_
  refine e_lcomp g hi ok hT hg ht he σ H _ (tL_of ⟨ι, hh, ℓ, r, lr, (PostS.lift p lr).imp fun w h1 ι1 H1 s1 r1 p1 v hv => ?_⟩)
  exact (show PostS G Wx ι1 H1 (.ok .nx (ℓ.set i (some w)) h1) (DK G D) from p1).ok r1 ((lr.mono s1).set hv)
end
end MP
set_option maxRecDepth 100000
set_option maxHeartbeats 4000000
namespace MP
open PySem PySem.Spec PyProof.Rows L2

/-! ### the text against the tree -/
def tyChk (c : Ctx) : List String → List Expr → Bool
  | [], [] => true
  | T :: Ts, .Name x _ :: es => decide (x = Str.ofString T) && tyNames.contains T && glB c x && tyChk c Ts es
  | _, _ => false
def isL : Me → Bool
  | .lst _ => true
  | .lrep _ _ => true
  | .lcat _ _ => true
  | .lcut _ _ _ => true
  | .lcomp _ _ _ _ _ => true
  | _ => false
theorem isL_e {C : Cn} : ∀ {m : Me}, isL m = true → (ev C m).e = true
  | .lst _, _ => rfl
  | .lrep _ _, _ => rfl
  | .lcat _ _, _ => rfl
  | .lcut _ _ _, _ => rfl
  | .lcomp _ _ _ _ _, _ => rfl
def slT : Mt → List Nat
  | .name i => [i]
  | .tup ts => slTs ts
  | .sub _ _ => []
where slTs : Mts → List Nat
  | .nil => []
  | .cons t ts => slT t ++ slTs ts
def ownN (N : List Str) (own : List Nat) : List (Str × Nat) := own.filterMap fun i => (N[i]?).map fun x => (x, i)
def Mts.len : Mts → Nat
  | .nil => 0
  | .cons _ ts => ts.len + 1
mutual
def trE (c : Ctx) : Me → Expr → Bool
  | .var i => fun e => match e with
    | .Name x _ => decide (c.N[i]? = some x) && visB c x && debB x
    | _ => false
  | .glob y => fun e => match e with
    | .Name x _ => decide (x = y) && glB c x && debB x
    | _ => false
  | .non => fun e => match e with
    | .Constant .none _ _ => true
    | _ => false
  | .bl b => fun e => match e with
    | .Constant (.bool b') _ _ => decide (b = b')
    | _ => false
  | .int i => fun e => match e with
    | .Constant (.int j) _ _ => decide (i = j)
    | _ => false
  | .str x => fun e => match e with
    | .Constant (.str y) _ _ => decide (x = y)
    | _ => false
  | .tup es => fun e => match e with
    | .Tuple xs _ _ => trEs c es xs
    | _ => false
  | .lst es => fun e => match e with
    | .List xs _ => trEs c es xs
    | _ => false
  | .dct kvs => fun e => match e with
    | .Dict ks vs _ => trD c kvs ks vs && decide (ks.length ≤ 15)
    | _ => false
  | .lrep a n => fun e => match e with
    | .BinOp x .Mult y _ => isL a && trE c a x && trE c n y
    | _ => false
  | .lcat a b => fun e => match e with
    | .BinOp x .Add y _ => trE c a x && trE c b y
    | _ => false
  | .lcut a lo hi => fun e => match e with
    | .Subscript x (.Slice l u none _) _ => trE c a x && trO c lo l && trO c hi u
    | _ => false
  | .bin op a b => fun e => match e with
    | .BinOp x o y _ => decide (o = op) && trE c a x && trE c b y
    | _ => false
  | .neg a => fun e => match e with
    | .UnaryOp .USub x _ => trE c a x
    | _ => false
  | .not a => fun e => match e with
    | .UnaryOp .Not x _ => trE c a x
    | _ => false
  | .boolop op es => fun e => match e with
    | .BoolOp o xs _ => decide (o = op) && trB c es xs
    | _ => false
  | .cmp op a b => fun e => match e with
    | .Compare x [o] [y] _ => decide (o = op) && notSet y && trE c a x && trE c b y
    | _ => false
  | .chain op1 op2 a b d => fun e => match e with
    | .Compare x [o1, o2] [y, z] _ => decide (o1 = op1) && decide (o2 = op2) && notSet z && trE c a x && trE c b y && trE c d z
    | _ => false
  | .ife k a b => fun e => match e with
    | .IfExp x y z _ => trE c k x && trE c a y && trE c b z
    | _ => false
  | .call f es => fun e => match e with
    | .Call (.Name x _) xs [] _ => decide (x = f) && decide (f ∈ c.fs) && glB c f && debB f && trEs c es xs
    | _ => false
  | .blt f es => fun e => match e with
    | .Call (.Name x _) xs [] _ => decide (x = f) && glB c f && trK c f es xs
    | _ => false
  | .isi a ts => fun e => match e with
    | .Call (.Name x _) [y, z] [] _ => decide (x = ("isinstance" : Str)) && glB c x && notStar y && trE c a y && (match z with
      | .Name w p => tyChk c ts [.Name w p]
      | .Tuple zs _ _ => tyChk c ts zs && decide (ts.length ≤ 20)
      | _ => false)
    | _ => false
  | .sub a i => fun e => match e with
    | .Subscript x y _ => notSlice y && trE c a x && trE c i y
    | _ => false
  | .slice a lo hi => fun e => match e with
    | .Subscript x (.Slice l u none _) _ => trE c a x && trO c lo l && trO c hi u
    | _ => false
  | .attr a f => fun e => false
  | .bm m a es => fun e => match e with
    | .Call (.Attribute x n ap) xs [] p => decide (n = m) && notSup x && (ap.endLine == p.line) && trE c a x && trM c m es xs
    | _ => false
  | .lcomp elt tg src ifs own => fun e => match e with
    | .ListComp x [⟨t, it, ifx, n⟩] scope _ => decide (n = 0) && notSet it && blkC c.N { kind := .function, names := c.names, isGenerator := false, isCoroutine := false } scope (ownN c.N own) && decide ((ownN c.N own).map (·.2) = own) && (slT tg).all (fun i => own.contains i) &&
      trI c src t it && trT (c.blk scope) tg t && trF (c.blk scope) ifs ifx && trE (c.blk scope) elt x
    | _ => false
def trEs (c : Ctx) : Mes → List Expr → Bool
  | .nil => fun xs => match xs with
    | [] => true
    | _ => false
  | .cons e es => fun xs => match xs with
    | x :: xs => notStar x && trE c e x && trEs c es xs
    | _ => false
def trD (c : Ctx) : Mks → List (Option Expr) → List Expr → Bool
  | .nil => fun ks vs => match ks, vs with
    | [], [] => true
    | _, _ => false
  | .cons k v r => fun ks vs => match ks, vs with
    | some x :: ks, y :: vs => trE c k x && trE c v y && trD c r ks vs
    | _, _ => false
/-- at least two operands -/
def trB (c : Ctx) : Mes → List Expr → Bool
  | .cons a (.cons b .nil) => fun xs => match xs with
    | [x, y] => trE c a x && trE c b y
    | _ => false
  | .cons a (.cons b (.cons d es)) => fun xs => match xs with
    | x :: y :: z :: xs => trE c a x && trB c (.cons b (.cons d es)) (y :: z :: xs)
    | _ => false
  | _ => fun _ => false
def trK (c : Ctx) (f : Str) : Mes → List Expr → Bool
  | .cons a .nil => fun xs => match xs with
    | [x] => notStar x && trE c a x && decide (f ∈ (["len", "repr", "list", "abs", "tuple", "all", "any", "sum"] : List Str))
    | _ => false
  | .cons a (.cons b .nil) => fun xs => match xs with
    | [x, y] => notStar x && notStar y && trE c a x && trE c b y && decide (f ∈ (["max", "min"] : List Str))
    | _ => false
  | _ => fun _ => false
def trM (c : Ctx) (m : Str) : Mes → List Expr → Bool
  | .cons a .nil => fun xs => match xs with
    | [x] => notStar x && trE c a x && decide (m ∈ (["join", "append"] : List Str))
    | _ => false
  | _ => fun _ => false
def trO (c : Ctx) : Mo → Option Expr → Bool
  | .none => fun o => match o with
    | none => true
    | _ => false
  | .some e => fun o => match o with
    | some x => trE c e x
    | _ => false
def trF (c : Ctx) : Mo → List Expr → Bool
  | .none => fun o => match o with
    | [] => true
    | _ => false
  | .some e => fun o => match o with
    | [x] => trE c e x
    | _ => false
def trT (c : Ctx) : Mt → Expr → Bool
  | .name i => fun e => match e with
    | .Name x _ => decide (c.N[i]? = some x) && setB c x
    | _ => false
  | .tup ts => fun e => match e with
    | .Tuple xs _ _ => trTs c ts xs
    | _ => false
  | .sub a i => fun e => match e with
    | .Subscript x y _ => notSlice y && trE c a x && trE c i y
    | _ => false
def trTs (c : Ctx) : Mts → List Expr → Bool
  | .nil => fun xs => match xs with
    | [] => true
    | _ => false
  | .cons t ts => fun xs => match xs with
    | x :: xs => notStar x && trT c t x && trTs c ts xs
    | _ => false
def trI (c : Ctx) : Mi → Expr → Expr → Bool
  | .val a => fun _ e => trE c a e
  | .range (.cons a .nil) => fun _ e => match e with
    | .Call (.Name x _) [y] [] _ => decide (x = ("range" : Str)) && glB c x && notStar y && trE c a y
    | _ => false
  | .range (.cons a (.cons b .nil)) => fun _ e => match e with
    | .Call (.Name x _) [y, z] [] _ => decide (x = ("range" : Str)) && glB c x && notStar y && notStar z && trE c a y && trE c b z
    | _ => false
  | .range _ => fun _ _ => false
  | .zip a b => fun t e => match t, e with
    | .Tuple _ _ _, .Call (.Name x _) [y, z] [] _ => decide (x = ("zip" : Str)) && glB c x && notStar y && notStar z && trE c a y && trE c b z
    | _, _ => false
  | .enum a => fun t e => match t, e with
    | .Tuple _ _ _, .Call (.Name x _) [y] [] _ => decide (x = ("enumerate" : Str)) && glB c x && notStar y && trE c a y
    | _, _ => false
end
end MP
set_option maxRecDepth 100000
set_option maxHeartbeats 4000000
namespace MP
open PySem PySem.Spec PyProof.Rows L2
theorem tys_of {c : Ctx} : ∀ {Ts : List String} {es : List Expr}, tyChk c Ts es = true → ∃ qs, es = tyExprs Ts qs ∧ Ts.length = qs.length ∧ ∀ T ∈ Ts, T ∈ tyNames ∧ glB c T = true
  | [], [], _ => ⟨[], rfl, rfl, fun _ h => nomatch h⟩
  | [], _ :: _, h => absurd h Bool.false_ne_true
  | _ :: _, [], h => absurd h Bool.false_ne_true
  | T :: Ts, e :: es, h => by
    cases e with
    | Name x q =>
      have h : (decide (x = Str.ofString T) && tyNames.contains T && glB c x && tyChk c Ts es) = true := h
      simp only [Bool.and_eq_true, decide_eq_true_eq, List.contains_iff_mem] at h
      obtain ⟨⟨⟨rfl, h1⟩, h2⟩, h3⟩ := h
      obtain ⟨qs, rfl, h4, h5⟩ := tys_of h3
      refine ⟨q :: qs, rfl, by simp [h4], fun U hU => ?_⟩
      rcases List.mem_cons.mp hU with rfl | hU
      · exact ⟨h1, h2⟩
      · exact h5 U hU
    | _ => exact absurd h Bool.false_ne_true
section
variable {G : Pg} {lvl : Nat} {C : Cn}
theorem trEs_star {c : Ctx} : ∀ {es : Mes} {xs : List Expr}, trEs c es xs = true → xs.all notStar = true
  | .nil, [], _ => rfl
  | .nil, _ :: _, h => absurd h Bool.false_ne_true
  | .cons _ _, [], h => absurd h Bool.false_ne_true
  | .cons e es, x :: xs, h => by
    have h : (notStar x && trE c e x && trEs c es xs) = true := h
    simp only [Bool.and_eq_true] at h
    rw [List.all_cons, h.1.1, trEs_star h.2]
    rfl
theorem takesF {X : Cx} : Takes X WF := fun _ _ x => by
  obtain ⟨_, _, _, _, _, _, _, _, _, _, _, _, _, _, _, _, z⟩ := x
  exact z.elim
/-- an expression that is right -/
def OkM (G : Pg) (lvl : Nat) (C : Cn) (m : Me) : Prop := ∀ (c : Ctx) (X : Cx) (Wx : WX) (e : Expr), Fc G C lvl c.fs → Gx G lvl c X → Takes X Wx → trE c m e = true → OkE G Wx X (ev C m) e
def OkMs (G : Pg) (lvl : Nat) (C : Cn) (m : Mes) : Prop := ∀ (c : Ctx) (X : Cx) (Wx : WX) (es : List Expr), Fc G C lvl c.fs → Gx G lvl c X → Takes X Wx → trEs c m es = true → PA X es (tA G Wx (evs C m))
theorem ok_var {i : Nat} : OkM G lvl C (.var i) := by
  intro c X Wx e F g tk h
  cases e with
  | Name x p =>
    have h : (decide (c.N[i]? = some x) && visB c x && debB x) = true := h
    simp only [Bool.and_eq_true, decide_eq_true_eq] at h
    exact OkE.ofV g (e_var g h.1.1 h.1.2 h.2) rfl
  | _ => exact absurd h Bool.false_ne_true
theorem ok_glob {y : Str} : OkM G lvl C (.glob y) := by
  intro c X Wx e F g tk h
  cases e with
  | Name x p =>
    have h : (decide (x = y) && glB c x && debB x) = true := h
    simp only [Bool.and_eq_true, decide_eq_true_eq] at h
    obtain ⟨⟨rfl, h1⟩, h2⟩ := h
    exact OkE.ofV g (e_glob F g h1 h2) rfl
  | _ => exact absurd h Bool.false_ne_true
theorem ok_non : OkM G lvl C .non := by
  intro c X Wx e F g tk h
  cases e with
  | Constant k j p =>
    cases k with
    | none => exact OkE.ofV g (e_const pe_non fun _ _ => .non) rfl
    | _ => exact absurd h Bool.false_ne_true
  | _ => exact absurd h Bool.false_ne_true
theorem ok_bl {b : Bool} : OkM G lvl C (.bl b) := by
  intro c X Wx e F g tk h
  cases e with
  | Constant k j p =>
    cases k with
    | bool b' =>
      have h : decide (b = b') = true := h
      have h := of_decide_eq_true h
      subst h
      exact OkE.ofV g (e_const pe_bl fun _ _ => .bl b) rfl
    | _ => exact absurd h Bool.false_ne_true
  | _ => exact absurd h Bool.false_ne_true
theorem ok_int {b : Int} : OkM G lvl C (.int b) := by
  intro c X Wx e F g tk h
  cases e with
  | Constant k j p =>
    cases k with
    | int b' =>
      have h : decide (b = b') = true := h
      have h := of_decide_eq_true h
      subst h
      exact OkE.ofV g (e_const pe_int fun _ _ => .int b) rfl
    | _ => exact absurd h Bool.false_ne_true
  | _ => exact absurd h Bool.false_ne_true
theorem ok_str {b : Str} : OkM G lvl C (.str b) := by
  intro c X Wx e F g tk h
  cases e with
  | Constant k j p =>
    cases k with
    | str b' =>
      have h : decide (b = b') = true := h
      have h := of_decide_eq_true h
      subst h
      exact OkE.ofV g (e_const pe_str fun _ _ => .str b) rfl
    | _ => exact absurd h Bool.false_ne_true
  | _ => exact absurd h Bool.false_ne_true
def OkMi (G : Pg) (lvl : Nat) (C : Cn) (m : Mi) : Prop := ∀ (c : Ctx) (X : Cx) (Wx : WX) (t e : Expr), Fc G C lvl c.fs → Gx G lvl c X → Takes X Wx → trI c m t e = true → PI X t e (tI G Wx (evi C m))
def OkMt (G : Pg) (lvl : Nat) (C : Cn) (m : Mt) : Prop := ∀ (c : Ctx) (X : Cx) (Wx : WX) (e : Expr), Fc G C lvl c.fs → Gx G lvl c X → Takes X Wx → trT c m e = true → PG X e (tG G (slT m) (evt C m))
def OkMf (G : Pg) (lvl : Nat) (C : Cn) (m : Mo) : Prop := ∀ (c : Ctx) (X : Cx) (Wx : WX) (o : List Expr), Fc G C lvl c.fs → Gx G lvl c X → Takes X Wx → trF c m o = true → PTs X o (tT G Wx (evf C m))
theorem okLc (elt : Me) (tg : Mt) (src : Mi) (ifs : Mo) (own : List Nat) (c : Ctx) (X : Cx) (Wx : WX) (x t it : Expr) (ifx : List Expr) (scope : Scope) (n : Int) (F : Fc G C lvl c.fs) (g : Gx G lvl c X) (tk : Takes X Wx) (iI : OkMi G lvl C src) (iT : OkMt G lvl C tg) (iF : OkMf G lvl C ifs) (iE : OkM G lvl C elt) (h : (decide (n = 0) && notSet it && blkC c.N { kind := .function, names := c.names, isGenerator := false, isCoroutine := false } scope (ownN c.N own) && decide ((ownN c.N own).map (·.2) = own) && (slT tg).all (fun i => own.contains i) &&
      trI c src t it && trT (c.blk scope) tg t && trF (c.blk scope) ifs ifx && trE (c.blk scope) elt x) = true) :
    n = 0 ∧ PI X t it (tI G Wx (evi C src)) ∧ notSet it = true ∧ BlkOk X.N X.env.scope scope (ownN c.N own) ∧ ((∀ i ∈ slT tg, i ∈ (ownN c.N own).map (·.2)) ∧ (ownN c.N own).map (·.2) = own) ∧
      (∀ (s : Shared) (H : Hp) (A0 : Addr) (cl : List (Str × Addr)) (fp : List Addr), PG (X.blk s H scope (compEnvC scope cl A0 X.env) fp) t (tG G (slT tg) (evt C tg))) ∧
      (∀ (s : Shared) (H : Hp) (A0 : Addr) (cl : List (Str × Addr)) (fp : List Addr), PTs (X.blk s H scope (compEnvC scope cl A0 X.env) fp) ifx (tT G WF (evf C ifs))) ∧
      (∀ (s : Shared) (H : Hp) (A0 : Addr) (cl : List (Str × Addr)) (fp : List Addr), PE (X.blk s H scope (compEnvC scope cl A0 X.env) fp) x (tV G WF (ev C elt).v)) := by
  simp only [Bool.and_eq_true, decide_eq_true_eq, List.all_eq_true, List.contains_iff_mem] at h
  obtain ⟨⟨⟨⟨⟨⟨⟨⟨h0, h1⟩, h2⟩, h3⟩, h4⟩, h5⟩, h6⟩, h7⟩, h8⟩ := h
  have hb := blkOk_by h2
  have gb := fun s H A0 cl fp => g.blk hb.kind s H A0 cl fp
  refine ⟨h0, iI c X Wx t it F g tk h5, h1, ⟨hb.kind, hb.uniq, by rw [g.N]; exact hb.ix, fun y hy e => by rw [g.nm]; exact hb.free y hy e, by rw [g.N]; exact hb.own⟩, ⟨by rw [h3]; exact h4, h3⟩, fun s H A0 cl fp => iT (c.blk scope) _ WF t F (gb s H A0 cl fp) takesF h6,
    fun s H A0 cl fp => iF (c.blk scope) _ WF ifx F (gb s H A0 cl fp) takesF h7, fun s H A0 cl fp => (iE (c.blk scope) _ WF x F (gb s H A0 cl fp) takesF h8).v⟩
mutual
theorem okE : ∀ m : Me, OkM G lvl C m
  | .var i => ok_var
  | .glob y => ok_glob
  | .non => ok_non
  | .bl b => ok_bl
  | .int b => ok_int
  | .str b => ok_str
  | .tup es => by
    intro c X Wx e F g tk h
    cases e with
    | Tuple xs k p => exact OkE.ofV g (e_tup (okEs es c X Wx xs F g tk h)) rfl
    | _ => exact absurd h Bool.false_ne_true
  | .lst es => by
    intro c X Wx e F g tk h
    cases e with
    | List xs p => exact OkE.ofL g (e_lst (okEs es c X Wx xs F g tk h)) rfl
    | _ => exact absurd h Bool.false_ne_true
  | .dct kvs => by
    intro c X Wx e F g tk h
    cases e with
    | Dict ks vs p =>
      have h : (trD c kvs ks vs && decide (ks.length ≤ 15)) = true := h
      simp only [Bool.and_eq_true, decide_eq_true_eq] at h
      obtain ⟨h1, h2⟩ := h
      cases kvs with
      | nil =>
        cases ks with
        | nil =>
          cases vs with
          | nil => exact OkE.ofV g e_dct0 rfl
          | cons _ _ => exact absurd h1 Bool.false_ne_true
        | cons _ _ => exact absurd h1 Bool.false_ne_true
      | cons k v r =>
        obtain ⟨q1, q2, q3, q4⟩ := okD (.cons k v r) c X Wx ks vs F g tk h1
        exact OkE.ofV g (e_dct (q1 p) q2 q3 (q4 (fun z => nomatch z)) h2) rfl
    | _ => exact absurd h Bool.false_ne_true
  | .lrep a n => by
    intro c X Wx e F g tk h
    cases e with
    | BinOp x o y p =>
      cases o with
      | Mult =>
        have h : (isL a && trE c a x && trE c n y) = true := h
        simp only [Bool.and_eq_true] at h
        obtain ⟨⟨h1, h2⟩, h3⟩ := h
        exact OkE.ofL g (e_lrep ((okE a c X Wx x F g tk h2).l (isL_e h1)) (okE n c X Wx y F g tk h3).v) rfl
      | _ => exact absurd h Bool.false_ne_true
    | _ => exact absurd h Bool.false_ne_true
  | .lcat a b => by
    intro c X Wx e F g tk h
    cases e with
    | BinOp x o y p =>
      cases o with
      | Add =>
        have h : (trE c a x && trE c b y) = true := h
        simp only [Bool.and_eq_true] at h
        exact OkE.ofL g (e_lcat g (okE a c X Wx x F g tk h.1) (okE b c X Wx y F g tk h.2)) rfl
      | _ => exact absurd h Bool.false_ne_true
    | _ => exact absurd h Bool.false_ne_true
  | .lcut a lo hi => by
    intro c X Wx e F g tk h
    cases e with
    | Subscript x s p =>
      cases s with
      | Slice l u st p2 =>
        cases st with
        | none =>
          have h : (trE c a x && trO c lo l && trO c hi u) = true := h
          simp only [Bool.and_eq_true] at h
          obtain ⟨⟨h1, h2⟩, h3⟩ := h
          exact OkE.ofL g (e_lcut g (okE a c X Wx x F g tk h1) (okO lo c X Wx l F g tk h2) (okO hi c X Wx u F g tk h3)) rfl
        | some _ => exact absurd h Bool.false_ne_true
      | _ => exact absurd h Bool.false_ne_true
    | _ => exact absurd h Bool.false_ne_true
  | .bin op a b => by
    intro c X Wx e F g tk h
    cases e with
    | BinOp x o y p =>
      have h : (decide (o = op) && trE c a x && trE c b y) = true := h
      simp only [Bool.and_eq_true, decide_eq_true_eq] at h
      obtain ⟨⟨rfl, h2⟩, h3⟩ := h
      exact OkE.ofV g (e_bin g (okE a c X Wx x F g tk h2).v (okE b c X Wx y F g tk h3).v) rfl
    | _ => exact absurd h Bool.false_ne_true
  | .neg a => by
    intro c X Wx e F g tk h
    cases e with
    | UnaryOp o x p =>
      cases o with
      | USub => exact OkE.ofV g (e_neg (okE a c X Wx x F g tk h).v) rfl
      | _ => exact absurd h Bool.false_ne_true
    | _ => exact absurd h Bool.false_ne_true
  | .not a => by
    intro c X Wx e F g tk h
    cases e with
    | UnaryOp o x p =>
      cases o with
      | Not => exact e_not g (okE a c X Wx x F g tk h)
      | _ => exact absurd h Bool.false_ne_true
    | _ => exact absurd h Bool.false_ne_true
  | .boolop op es => by
    intro c X Wx e F g tk h
    cases e with
    | BoolOp o xs p =>
      have h : (decide (o = op) && trB c es xs) = true := h
      simp only [Bool.and_eq_true, decide_eq_true_eq] at h
      obtain ⟨rfl, h2⟩ := h
      obtain ⟨q1, q2, q3⟩ := okB es c X Wx xs o p F g tk h2
      exact b_end g q1 q2 q3
    | _ => exact absurd h Bool.false_ne_true
  | .cmp op a b => by
    intro c X Wx e F g tk h
    cases e with
    | Compare x os ys p =>
      rcases os with _ | ⟨o, _ | ⟨_, _⟩⟩ <;> rcases ys with _ | ⟨y, _ | ⟨_, _⟩⟩ <;> first
        | exact absurd h Bool.false_ne_true
        | skip
      have h : (decide (o = op) && notSet y && trE c a x && trE c b y) = true := h
      simp only [Bool.and_eq_true, decide_eq_true_eq] at h
      obtain ⟨⟨⟨rfl, h1⟩, h2⟩, h3⟩ := h
      exact e_cmp g (okE a c X Wx x F g tk h2) (okE b c X Wx y F g tk h3) h1
    | _ => exact absurd h Bool.false_ne_true
  | .chain op1 op2 a b d => by
    intro c X Wx e F g tk h
    cases e with
    | Compare x os ys p =>
      rcases os with _ | ⟨o, _ | ⟨o2, _ | ⟨_, _⟩⟩⟩ <;> rcases ys with _ | ⟨y, _ | ⟨z, _ | ⟨_, _⟩⟩⟩ <;> first
        | exact absurd h Bool.false_ne_true
        | skip
      have h : (decide (o = op1) && decide (o2 = op2) && notSet z && trE c a x && trE c b y && trE c d z) = true := h
      simp only [Bool.and_eq_true, decide_eq_true_eq] at h
      obtain ⟨⟨⟨⟨⟨rfl, rfl⟩, h1⟩, h2⟩, h3⟩, h4⟩ := h
      exact e_chain g (okE a c X Wx x F g tk h2) (okE b c X Wx y F g tk h3) (okE d c X Wx z F g tk h4) h1
    | _ => exact absurd h Bool.false_ne_true
  | .ife k a b => by
    intro c X Wx e F g tk h
    cases e with
    | IfExp x y z p =>
      have h : (trE c k x && trE c a y && trE c b z) = true := h
      simp only [Bool.and_eq_true] at h
      obtain ⟨⟨h1, h2⟩, h3⟩ := h
      exact e_ite (okE k c X Wx x F g tk h1) (okE a c X Wx y F g tk h2) (okE b c X Wx z F g tk h3)
    | _ => exact absurd h Bool.false_ne_true
  | .call f es => by
    intro c X Wx e F g tk h
    cases e with
    | Call fn xs ks p =>
      cases fn with
      | Name x q =>
        cases ks with
        | nil =>
          have h : (decide (x = f) && decide (f ∈ c.fs) && glB c f && debB f && trEs c es xs) = true := h
          simp only [Bool.and_eq_true, decide_eq_true_eq] at h
          obtain ⟨⟨⟨⟨rfl, h1⟩, h2⟩, h3⟩, h4⟩ := h
          cases xs with
          | nil =>
            cases es with
            | nil => exact OkE.ofV g (e_call0 F g tk h1 h2 h3) rfl
            | cons _ _ => exact absurd h4 Bool.false_ne_true
          | cons y ys => exact OkE.ofV g (e_call F g tk h1 h2 h3 (trEs_star h4) (okEs es c X Wx (y :: ys) F g tk h4)) rfl
        | cons _ _ => exact absurd h Bool.false_ne_true
      | _ => exact absurd h Bool.false_ne_true
    | _ => exact absurd h Bool.false_ne_true
  | .blt f es => by
    intro c X Wx e F g tk h
    cases e with
    | Call fn xs ks p =>
      cases fn with
      | Name x q =>
        cases ks with
        | nil =>
          have h : (decide (x = f) && glB c f && trK c f es xs) = true := h
          simp only [Bool.and_eq_true, decide_eq_true_eq] at h
          obtain ⟨⟨rfl, h1⟩, h2⟩ := h
          exact okK es c X Wx x xs q p F g tk h1 h2
        | cons _ _ => exact absurd h Bool.false_ne_true
      | _ => exact absurd h Bool.false_ne_true
    | _ => exact absurd h Bool.false_ne_true
  | .isi a ts => by
    intro c X Wx e F g tk h
    cases e with
    | Call fn xs ks p =>
      cases fn with
      | Name x q =>
        rcases xs with _ | ⟨y, _ | ⟨z, _ | ⟨_, _⟩⟩⟩ <;> cases ks <;> first
          | exact absurd h Bool.false_ne_true
          | skip
        cases z with
        | Name w pw =>
          have h : (decide (x = ("isinstance" : Str)) && glB c x && notStar y && trE c a y && tyChk c ts [.Name w pw]) = true := h
          simp only [Bool.and_eq_true, decide_eq_true_eq] at h
          obtain ⟨⟨⟨⟨rfl, h1⟩, h2⟩, h3⟩, h4⟩ := h
          rcases ts with _ | ⟨T, _ | ⟨_, _⟩⟩
          · exact absurd h4 Bool.false_ne_true
          · have h4 : (decide (w = Str.ofString T) && tyNames.contains T && glB c w && true) = true := h4
            simp only [Bool.and_eq_true, decide_eq_true_eq, List.contains_iff_mem] at h4
            obtain ⟨⟨⟨rfl, h5⟩, h6⟩, _⟩ := h4
            exact OkE.ofV g (k_isi1 F g h1 h2 (okE a c X Wx y F g tk h3).v h5 h6) rfl
          · have h4 : (decide (w = Str.ofString T) && tyNames.contains T && glB c w && false) = true := h4
            rw [Bool.and_false] at h4
            exact absurd h4 Bool.false_ne_true
        | Tuple zs k pw =>
          have h : (decide (x = ("isinstance" : Str)) && glB c x && notStar y && trE c a y && (tyChk c ts zs && decide (ts.length ≤ 20))) = true := h
          simp only [Bool.and_eq_true, decide_eq_true_eq] at h
          obtain ⟨⟨⟨⟨rfl, h1⟩, h2⟩, h3⟩, h4, h5⟩ := h
          obtain ⟨qs, rfl, h6, h7⟩ := tys_of h4
          exact OkE.ofV g (k_isiT F g h1 h2 (okE a c X Wx y F g tk h3).v h6 (by rw [sizeLine_eq]; omega) h7) rfl
        | _ =>
          have h : (decide (x = ("isinstance" : Str)) && glB c x && notStar y && trE c a y && false) = true := h
          rw [Bool.and_false] at h
          exact absurd h Bool.false_ne_true
      | _ => exact absurd h Bool.false_ne_true
    | _ => exact absurd h Bool.false_ne_true
  | .sub a i => by
    intro c X Wx e F g tk h
    cases e with
    | Subscript x y p =>
      have h : (notSlice y && trE c a x && trE c i y) = true := h
      simp only [Bool.and_eq_true] at h
      exact e_sub g (okE a c X Wx x F g tk h.1.2) (okE i c X Wx y F g tk h.2) h.1.1
    | _ => exact absurd h Bool.false_ne_true
  | .slice a lo hi => by
    intro c X Wx e F g tk h
    cases e with
    | Subscript x s p =>
      cases s with
      | Slice l u st p2 =>
        cases st with
        | none =>
          have h : (trE c a x && trO c lo l && trO c hi u) = true := h
          simp only [Bool.and_eq_true] at h
          obtain ⟨⟨h1, h2⟩, h3⟩ := h
          exact OkE.ofV g (e_slice g (okE a c X Wx x F g tk h1).v (okO lo c X Wx l F g tk h2) (okO hi c X Wx u F g tk h3)) rfl
        | some _ => exact absurd h Bool.false_ne_true
      | _ => exact absurd h Bool.false_ne_true
    | _ => exact absurd h Bool.false_ne_true
  | .attr a f => by
    intro c X Wx e F g tk h
    exact absurd h Bool.false_ne_true
  | .bm m a es => by
    intro c X Wx e F g tk h
    cases e with
    | Call fn xs ks p =>
      cases fn with
      | Attribute x n ap =>
        cases ks with
        | nil =>
          have h : (decide (n = m) && notSup x && (ap.endLine == p.line) && trE c a x && trM c m es xs) = true := h
          simp only [Bool.and_eq_true, decide_eq_true_eq] at h
          obtain ⟨⟨⟨⟨rfl, h1⟩, h2⟩, h3⟩, h4⟩ := h
          exact okMm es c X Wx n x xs ap p (ev C a) F g tk (okE a c X Wx x F g tk h3) h1 h2 h4
        | cons _ _ => exact absurd h Bool.false_ne_true
      | _ => exact absurd h Bool.false_ne_true
    | _ => exact absurd h Bool.false_ne_true
  | .lcomp elt tg src ifs own => by
    intro c X Wx e F g tk h
    cases e with
    | ListComp x gens scope p =>
      rcases gens with _ | ⟨⟨t, it, ifx, n⟩, _ | ⟨_, _⟩⟩
      · exact absurd h Bool.false_ne_true
      · have q := okLc elt tg src ifs own c X Wx x t it ifx scope n F g tk (okI src) (okT tg) (okF ifs) (okE elt) h
        obtain ⟨q0, q⟩ := q
        subst q0
        exact OkE.ofL g (PE.imp (pe_lc g.calm (by rw [g.N]; exact g.nd) q.1 q.2.2.1 q.2.2.2.2.1 q.2.2.2.2.2.1 q.2.2.2.2.2.2 (hs := fold_ok q.2.1)) fun σ H Q hQ => by
            refine e_lcomp g q.1 q.2.2.1 q.2.2.2.1.1 q.2.2.2.2.1 q.2.2.2.2.2.1 q.2.2.2.2.2.2 σ H Q ?_
            rw [q.2.2.2.1.2]
            exact hQ) rfl
      · exact absurd h Bool.false_ne_true
    | _ => exact absurd h Bool.false_ne_true
theorem okEs : ∀ m : Mes, OkMs G lvl C m
  | .nil => by
    intro c X Wx es F g tk h
    cases es with
    | nil => exact a_nil
    | cons _ _ => exact absurd h Bool.false_ne_true
  | .cons e es => by
    intro c X Wx xs F g tk h
    cases xs with
    | nil => exact absurd h Bool.false_ne_true
    | cons x xs =>
      have h : (notStar x && trE c e x && trEs c es xs) = true := h
      simp only [Bool.and_eq_true] at h
      exact a_cons (okE e c X Wx x F g tk h.1.2).v (okEs es c X Wx xs F g tk h.2) h.1.1
theorem okD : ∀ (m : Mks) (c : Ctx) (X : Cx) (Wx : WX) (ks : List (Option Expr)) (vs : List Expr), Fc G C lvl c.fs → Gx G lvl c X → Takes X Wx → trD c m ks vs = true →
    (∀ pos, PD X pos ks vs (tD G Wx (evd C m))) ∧ ks.all (·.isSome) = true ∧ ks.length = vs.length ∧ (m ≠ .nil → ks ≠ [])
  | .nil => by
    intro c X Wx ks vs F g tk h
    cases ks with
    | nil =>
      cases vs with
      | nil => exact ⟨fun _ => d_nil, rfl, rfl, fun z => absurd rfl z⟩
      | cons _ _ => exact absurd h Bool.false_ne_true
    | cons _ _ => exact absurd h Bool.false_ne_true
  | .cons k v r => by
    intro c X Wx ks vs F g tk h
    cases ks with
    | nil => exact absurd h Bool.false_ne_true
    | cons o ks =>
      cases vs with
      | nil => cases o <;> exact absurd h Bool.false_ne_true
      | cons y vs =>
        cases o with
        | none => exact absurd h Bool.false_ne_true
        | some x =>
          have h : (trE c k x && trE c v y && trD c r ks vs) = true := h
          simp only [Bool.and_eq_true] at h
          obtain ⟨q1, q2, q3, _⟩ := okD r c X Wx ks vs F g tk h.2
          exact ⟨fun pos => d_cons (okE k c X Wx x F g tk h.1.1).v (okE v c X Wx y F g tk h.1.2).v (q1 pos), by rw [List.all_cons, q2]; rfl, by rw [List.length_cons, List.length_cons, q3], fun _ z => nomatch z⟩
theorem okB : ∀ (m : Mes) (c : Ctx) (X : Cx) (Wx : WX) (xs : List Expr) (op : BoolOp) (pos : Pos), Fc G C lvl c.fs → Gx G lvl c X → Takes X Wx → trB c m xs = true →
    OkB G Wx X (evb C op m) (.BoolOp op xs pos) ∧ (evb C op m).e = false ∧ ∀ ℓ h, (evb C op m).l ℓ h = ((evb C op m).v ℓ h).bind fun w h => seqR h w
  | .nil => fun c X Wx xs op pos F g tk h => absurd h Bool.false_ne_true
  | .cons a .nil => fun c X Wx xs op pos F g tk h => absurd h Bool.false_ne_true
  | .cons a (.cons b .nil) => by
    intro c X Wx xs op pos F g tk h
    rcases xs with _ | ⟨x, _ | ⟨y, _ | ⟨_, _⟩⟩⟩ <;> first
      | exact absurd h Bool.false_ne_true
      | skip
    have h : (trE c a x && trE c b y) = true := h
    simp only [Bool.and_eq_true] at h
    exact ⟨b_more g (okE a c X Wx x F g tk h.1) (b_one (okE b c X Wx y F g tk h.2)), rfl, fun _ _ => rfl⟩
  | .cons a (.cons b (.cons d es)) => by
    intro c X Wx xs op pos F g tk h
    rcases xs with _ | ⟨x, _ | ⟨y, _ | ⟨z, xs⟩⟩⟩ <;> first
      | exact absurd h Bool.false_ne_true
      | skip
    have h : (trE c a x && trB c (.cons b (.cons d es)) (y :: z :: xs)) = true := h
    simp only [Bool.and_eq_true] at h
    obtain ⟨q1, q2, q3⟩ := okB (.cons b (.cons d es)) c X Wx (y :: z :: xs) op pos F g tk h.2
    exact ⟨b_more g (okE a c X Wx x F g tk h.1) q1, rfl, fun _ _ => rfl⟩
theorem okK : ∀ (m : Mes) (c : Ctx) (X : Cx) (Wx : WX) (f : Str) (xs : List Expr) (p pos : Pos), Fc G C lvl c.fs → Gx G lvl c X → Takes X Wx → glB c f = true → trK c f m xs = true → OkE G Wx X (evk C f m) (.Call (.Name f p) xs [] pos)
  | .nil => fun c X Wx f xs p pos F g tk hg h => absurd h Bool.false_ne_true
  | .cons a .nil => by
    intro c X Wx f xs p pos F g tk hg h
    rcases xs with _ | ⟨x, _ | ⟨_, _⟩⟩ <;> first
      | exact absurd h Bool.false_ne_true
      | skip
    have h : (notStar x && trE c a x && decide (f ∈ (["len", "repr", "list", "abs", "tuple", "all", "any", "sum"] : List Str))) = true := h
    simp only [Bool.and_eq_true, decide_eq_true_eq] at h
    obtain ⟨⟨h1, h2⟩, h3⟩ := h
    have ih := okE a c X Wx x F g tk h2
    simp only [List.mem_cons, List.not_mem_nil, or_false] at h3
    rcases h3 with rfl | rfl | rfl | rfl | rfl | rfl | rfl | rfl
    · exact OkE.ofV g (k_len F g hg h1 ih) rfl
    · exact OkE.ofV g (k_repr F g hg h1 ih) rfl
    · exact OkE.ofL g (k_list F g hg h1 ih) rfl
    · exact OkE.ofV g (k_abs F g hg h1 ih.v) rfl
    · exact OkE.ofV g (k_tuple F g hg h1 ih) rfl
    · exact OkE.ofV g (k_all F g hg h1 ih) rfl
    · exact OkE.ofV g (k_any F g hg h1 ih) rfl
    · exact OkE.ofV g (k_sum F g hg h1 ih) rfl
  | .cons a (.cons b .nil) => by
    intro c X Wx f xs p pos F g tk hg h
    rcases xs with _ | ⟨x, _ | ⟨y, _ | ⟨_, _⟩⟩⟩ <;> first
      | exact absurd h Bool.false_ne_true
      | skip
    have h : (notStar x && notStar y && trE c a x && trE c b y && decide (f ∈ (["max", "min"] : List Str))) = true := h
    simp only [Bool.and_eq_true, decide_eq_true_eq] at h
    obtain ⟨⟨⟨⟨h1, h2⟩, h3⟩, h4⟩, h5⟩ := h
    have iha := okE a c X Wx x F g tk h3
    have ihb := okE b c X Wx y F g tk h4
    simp only [List.mem_cons, List.not_mem_nil, or_false] at h5
    rcases h5 with rfl | rfl
    · exact OkE.ofV g (k_max F g hg h1 h2 iha.v ihb.v) rfl
    · exact OkE.ofV g (k_min F g hg h1 h2 iha.v ihb.v) rfl
  | .cons a (.cons b (.cons d es)) => fun c X Wx f xs p pos F g tk hg h => absurd h Bool.false_ne_true
theorem okMm : ∀ (m : Mes) (c : Ctx) (X : Cx) (Wx : WX) (f : Str) (x : Expr) (xs : List Expr) (ap pos : Pos) (sa : Sm), Fc G C lvl c.fs → Gx G lvl c X → Takes X Wx → OkE G Wx X sa x → notSup x = true → (ap.endLine == pos.line) = true → trM c f m xs = true → OkE G Wx X (evm C f sa m) (.Call (.Attribute x f ap) xs [] pos)
  | .nil => fun c X Wx f x xs p pos sa F g tk ha h1 h2 h => absurd h Bool.false_ne_true
  | .cons b .nil => by
    intro c X Wx f x xs p pos sa F g tk ha h1 h2 h
    rcases xs with _ | ⟨y, _ | ⟨_, _⟩⟩ <;> first
      | exact absurd h Bool.false_ne_true
      | skip
    have h : (notStar y && trE c b y && decide (f ∈ (["join", "append"] : List Str))) = true := h
    simp only [Bool.and_eq_true, decide_eq_true_eq] at h
    obtain ⟨⟨h3, h4⟩, h5⟩ := h
    have ih := okE b c X Wx y F g tk h4
    simp only [List.mem_cons, List.not_mem_nil, or_false] at h5
    rcases h5 with rfl | rfl
    · exact OkE.ofV g (k_join g ha.v ih h3 h1 h2) rfl
    · exact OkE.ofV g (k_append g ha.v ih.v h3 h1 h2) rfl
  | .cons b (.cons d es) => fun c X Wx f x xs p pos sa F g tk ha h1 h2 h => absurd h Bool.false_ne_true
theorem okO : ∀ (m : Mo) (c : Ctx) (X : Cx) (Wx : WX) (o : Option Expr), Fc G C lvl c.fs → Gx G lvl c X → Takes X Wx → trO c m o = true → PO X o (tP G Wx (evo C m))
  | .none => by
    intro c X Wx o F g tk h
    cases o with
    | none => exact o_none
    | some _ => exact absurd h Bool.false_ne_true
  | .some e => by
    intro c X Wx o F g tk h
    cases o with
    | none => exact absurd h Bool.false_ne_true
    | some x => exact o_some (okE e c X Wx x F g tk h).v
theorem okF : ∀ (m : Mo) (c : Ctx) (X : Cx) (Wx : WX) (o : List Expr), Fc G C lvl c.fs → Gx G lvl c X → Takes X Wx → trF c m o = true → PTs X o (tT G Wx (evf C m))
  | .none => by
    intro c X Wx o F g tk h
    cases o with
    | nil => exact ⟨fun pins s σ H Q I ⟨ι, hh, ℓ, r, lr, p⟩ => pts_nil.run pins s σ H Q I (p.ok r)⟩
    | cons _ _ => exact absurd h Bool.false_ne_true
  | .some e => by
    intro c X Wx o F g tk h
    rcases o with _ | ⟨x, _ | ⟨_, _⟩⟩
    · exact absurd h Bool.false_ne_true
    · exact pts_one (okE e c X Wx x F g tk h).t
    · exact absurd h Bool.false_ne_true
theorem okT : ∀ (m : Mt) (c : Ctx) (X : Cx) (Wx : WX) (e : Expr), Fc G C lvl c.fs → Gx G lvl c X → Takes X Wx → trT c m e = true → PG X e (tG G (slT m) (evt C m))
  | .name i => by
    intro c X Wx e F g tk h
    cases e with
    | Name x p =>
      have h : (decide (c.N[i]? = some x) && setB c x) = true := h
      simp only [Bool.and_eq_true, decide_eq_true_eq] at h
      exact g_name g h.1 h.2
    | _ => exact absurd h Bool.false_ne_true
  | .tup ts => by
    intro c X Wx e F g tk h
    cases e with
    | Tuple xs k p =>
      obtain ⟨q1, q2, q3⟩ := okTs ts c X Wx xs F g tk h
      exact g_tup g q2 q3 q1
    | _ => exact absurd h Bool.false_ne_true
  | .sub a i => by
    intro c X Wx e F g tk h
    cases e with
    | Subscript x y p =>
      have h : (notSlice y && trE c a x && trE c i y) = true := h
      simp only [Bool.and_eq_true] at h
      exact g_sub h.1.1 (okE a c X Wx x F g tk h.1.2).v (okE i c X Wx y F g tk h.2).v
    | _ => exact absurd h Bool.false_ne_true
theorem okTs : ∀ (m : Mts) (c : Ctx) (X : Cx) (Wx : WX) (es : List Expr), Fc G C lvl c.fs → Gx G lvl c X → Takes X Wx → trTs c m es = true →
    PGs X es (tGs G (slT.slTs m) (evts C m)) ∧ es.all notStar = true ∧ ∀ ws ℓ h, ws.length ≠ es.length → ∀ σ ι H kk, ¬ Post G WF σ ι H (evts C m ws ℓ h) kk
  | .nil => by
    intro c X Wx es F g tk h
    cases es with
    | nil =>
      refine ⟨gs_nil, rfl, fun ws ℓ h hl σ ι H kk p => ?_⟩
      cases ws with
      | nil => exact hl rfl
      | cons _ _ => exact p
    | cons _ _ => exact absurd h Bool.false_ne_true
  | .cons t ts => by
    intro c X Wx es F g tk h
    cases es with
    | nil => exact absurd h Bool.false_ne_true
    | cons x xs =>
      have h : (notStar x && trT c t x && trTs c ts xs) = true := h
      simp only [Bool.and_eq_true] at h
      obtain ⟨q1, q2, q3⟩ := okTs ts c X Wx xs F g tk h.2
      refine ⟨gs_cons h.1.1 (okT t c X Wx x F g tk h.1.2) q1, by rw [List.all_cons, h.1.1, q2]; rfl, fun ws ℓ hh hl σ ι H kk p => ?_⟩
      cases ws with
      | nil => exact p
      | cons w ws =>
        have p : Post G WF σ ι H ((noX (evt C t w ℓ hh)).bind fun ℓ h => evts C ts ws ℓ h) kk := p
        revert p
        cases evt C t w ℓ hh with
        | stuck => exact fun p => p
        | exc x h' => exact fun p => p
        | ok ℓ' h' => exact fun p => q3 ws ℓ' h' (by simpa using hl) σ ι H kk p
theorem okI : ∀ (m : Mi) (c : Ctx) (X : Cx) (Wx : WX) (t e : Expr), Fc G C lvl c.fs → Gx G lvl c X → Takes X Wx → trI c m t e = true → PI X t e (tI G Wx (evi C m))
  | .val a => fun c X Wx t e F g tk h => i_val g (okE a c X Wx e F g tk h)
  | .range .nil => fun c X Wx t e F g tk h => absurd h Bool.false_ne_true
  | .range (.cons a .nil) => by
    intro c X Wx t e F g tk h
    cases e with
    | Call fn xs ks p =>
      cases fn with
      | Name x q =>
        rcases xs with _ | ⟨y, _ | ⟨_, _⟩⟩ <;> cases ks <;> first
          | exact absurd h Bool.false_ne_true
          | skip
        have h : (decide (x = ("range" : Str)) && glB c x && notStar y && trE c a y) = true := h
        simp only [Bool.and_eq_true, decide_eq_true_eq] at h
        obtain ⟨⟨⟨rfl, h1⟩, h2⟩, h3⟩ := h
        exact i_range1 F g h1 h2 (okE a c X Wx y F g tk h3).v
      | _ => exact absurd h Bool.false_ne_true
    | _ => exact absurd h Bool.false_ne_true
  | .range (.cons a (.cons b .nil)) => by
    intro c X Wx t e F g tk h
    cases e with
    | Call fn xs ks p =>
      cases fn with
      | Name x q =>
        rcases xs with _ | ⟨y, _ | ⟨z, _ | ⟨_, _⟩⟩⟩ <;> cases ks <;> first
          | exact absurd h Bool.false_ne_true
          | skip
        have h : (decide (x = ("range" : Str)) && glB c x && notStar y && notStar z && trE c a y && trE c b z) = true := h
        simp only [Bool.and_eq_true, decide_eq_true_eq] at h
        obtain ⟨⟨⟨⟨⟨rfl, h1⟩, h2⟩, h3⟩, h4⟩, h5⟩ := h
        exact i_range2 F g h1 h2 h3 (okE a c X Wx y F g tk h4).v (okE b c X Wx z F g tk h5).v
      | _ => exact absurd h Bool.false_ne_true
    | _ => exact absurd h Bool.false_ne_true
  | .range (.cons a (.cons b (.cons d es))) => fun c X Wx t e F g tk h => absurd h Bool.false_ne_true
  | .zip a b => by
    intro c X Wx t e F g tk h
    cases t with
    | Tuple elts kk tpos =>
      cases e with
      | Call fn xs ks p =>
        cases fn with
        | Name x q =>
          rcases xs with _ | ⟨y, _ | ⟨z, _ | ⟨_, _⟩⟩⟩ <;> cases ks <;> first
            | exact absurd h Bool.false_ne_true
            | skip
          have h : (decide (x = ("zip" : Str)) && glB c x && notStar y && notStar z && trE c a y && trE c b z) = true := h
          simp only [Bool.and_eq_true, decide_eq_true_eq] at h
          obtain ⟨⟨⟨⟨⟨rfl, h1⟩, h2⟩, h3⟩, h4⟩, h5⟩ := h
          exact i_zip F g h1 h2 h3 (okE a c X Wx y F g tk h4) (okE b c X Wx z F g tk h5)
        | _ => exact absurd h Bool.false_ne_true
      | _ => exact absurd h Bool.false_ne_true
    | _ => exact absurd h Bool.false_ne_true
  | .enum a => by
    intro c X Wx t e F g tk h
    cases t with
    | Tuple elts kk tpos =>
      cases e with
      | Call fn xs ks p =>
        cases fn with
        | Name x q =>
          rcases xs with _ | ⟨y, _ | ⟨_, _⟩⟩ <;> cases ks <;> first
            | exact absurd h Bool.false_ne_true
            | skip
          have h : (decide (x = ("enumerate" : Str)) && glB c x && notStar y && trE c a y) = true := h
          simp only [Bool.and_eq_true, decide_eq_true_eq] at h
          obtain ⟨⟨⟨rfl, h1⟩, h2⟩, h3⟩ := h
          exact i_enum F g h1 h2 (okE a c X Wx y F g tk h3)
        | _ => exact absurd h Bool.false_ne_true
      | _ => exact absurd h Bool.false_ne_true
    | _ => exact absurd h Bool.false_ne_true
end
end
end MP
set_option maxRecDepth 100000
set_option maxHeartbeats 4000000
namespace MP
open PySem PySem.Spec PyProof.Rows L2

/-- a, b = x, y, stored from the right -/
def parB (c : Ctx) (i j : Nat) (ts vs : List Expr) : Bool := match ts, vs with
  | [.Name x px, .Name y py], [a, b] => decide (c.N[i]? = some x) && decide (c.N[j]? = some y) && decide (i ≠ j) && decide (c.names.lookup x = some .local) && decide (c.names.lookup y = some .local) && decide (x ≠ y) &&
    (px.line == py.line) && notStar a && notStar b && !([a, b].all (foldedForSure 8)) && !([a, b].all (constantsAlone 8))
  | _, _ => false
theorem par_ok {env : Env} {x y : Str} {px py pt pt2 : Pos} {kt k2 : Nat} {a b : Expr} (hk : env.scope.kind = .function) (hx : env.scope.names.lookup x = some .local) (hy : env.scope.names.lookup y = some .local) (hne : x ≠ y) (hl : (px.line == py.line) = true)
    (ha : notStar a = true) (hb : notStar b = true) (hf : [a, b].all (foldedForSure 8) = false) (hc : [a, b].all (constantsAlone 8) = false) :
    swappedStores [.Tuple [.Name x px, .Name y py] kt pt] (.Tuple [a, b] k2 pt2) env = pure (some [x, y]) := by
  have kb : env.blockKind = .function := by unfold Env.blockKind; rw [hk]; rfl
  have kx : env.kindOf x = some .local := hx
  have ky : env.kindOf y = some .local := hy
  have hl2 : py.line = px.line := (beq_iff_eq.mp hl).symm
  have hne2 : (x == y) = false := by rw [beq_eq_false_iff_ne]; exact hne
  have hne3 : (y == x) = false := by rw [beq_eq_false_iff_ne]; exact fun z => hne z.symm
  unfold swappedStores
  simp only [kb, kx, ky, hf, hc, hl2, Expr.pos, List.length_cons, List.length_nil, List.head?_cons, Option.map_some, Option.getD_some, List.filterMap_cons, List.filterMap_nil, beq_self_eq_true, Bool.and_true, if_true, Bool.false_eq_true, if_false]
  simp [List.eraseDups, hne2, hne3, List.eraseDupsBy, List.eraseDupsBy.loop]
  intro z
  rcases z with z | z
  · cases a <;> first | exact absurd ha Bool.false_ne_true | (cases z; done)
  · cases b <;> first | exact absurd hb Bool.false_ne_true | (cases z; done)
/-- a = [.. for ..] on one line -/
def lcB (c : Ctx) (i : Nat) (t e : Expr) : Bool := match t, e with
  | .Name y py, .ListComp _ _ scope p => decide (c.N[i]? = some y) && decide (c.names.lookup y = some .local) && (py.line == p.line) && !(scope.names.any fun (n, k) => n == y && (k == .local || k == .cell))
  | _, _ => false
def lcT (c : Ctx) : Mt → Me → Expr → Expr → Bool
  | .name i, .lcomp _ _ _ _ _, te, e => lcB c i te e
  | _, _, _, _ => false
def asgB (c : Ctx) (t : Mt) (te e : Expr) : Bool := notStar te && notPar te e && (notComp e || notName te)
mutual
def trS (c : Ctx) : Ms → Stmt → Bool
  | .asg t m => fun s => match s with
    | .Assign [te] e _ => trE c m e && trT c t te && (asgB c t te e || lcT c t m te e)
    | _ => false
  | .par i j a b => fun s => match s with
    | .Assign [.Tuple ts _ _] (.Tuple [x, y] _ _) _ => parB c i j ts [x, y] && trE c a x && trE c b y
    | _ => false
  | .expr m => fun s => match s with
    | .Expr e _ => notComp e && trE c m e
    | _ => false
  | .ret m => fun s => match s with
    | .Return (some e) _ => trE c m e
    | _ => false
  | .retN => fun s => match s with
    | .Return none _ => true
    | _ => false
  | .pass => fun s => match s with
    | .Pass _ => true
    | _ => false
  | .brk => fun s => match s with
    | .Break _ => true
    | _ => false
  | .cont => fun s => match s with
    | .Continue _ => true
    | _ => false
  | .ife m a b => fun s => match s with
    | .If e x y _ => trE c m e && trSs c a x && trSs c b y
    | _ => false
  | .for t m b => fun s => match s with
    | .For te e x [] _ => notSet e && trI c m te e && trT c t te && trSs c b x
    | _ => false
  | .while m b => fun s => match s with
    | .While e x [] _ => trE c m e && trSs c b x
    | _ => false
  | .raise _ _ => fun _ => false
  | .try _ _ _ _ => fun _ => false
def trSs (c : Ctx) : Mss → List Stmt → Bool
  | .nil => fun ss => match ss with
    | [] => true
    | _ => false
  | .cons m .nil => fun ss => match ss with
    | [s] => trS c m s
    | _ => false
  | .cons m (.cons m2 ms) => fun ss => match ss with
    | s :: s2 :: ss => trS c m s && trSs c (.cons m2 ms) (s2 :: ss)
    | _ => false
end
section
variable {G : Pg} {lvl : Nat} {C : Cc}
mutual
theorem okS : ∀ (m : Ms) (c : Ctx) (X : Cx) (Wx : WX) (s : Stmt), Fc G C.cn lvl c.fs → Sx G lvl c X Wx → trS c m s = true → PS X s (tSt G Wx (evS C m))
  | .asg t m => by
    intro c X Wx s F S h
    cases s with
    | Assign ts e p =>
      rcases ts with _ | ⟨te, _ | ⟨_, _⟩⟩ <;> first
        | exact absurd h Bool.false_ne_true
        | skip
      have h : (trE c m e && trT c t te && (asgB c t te e || lcT c t m te e)) = true := h
      simp only [Bool.and_eq_true, Bool.or_eq_true] at h
      obtain ⟨⟨h1, h2⟩, h3⟩ := h
      rcases h3 with h3 | h3
      · unfold asgB at h3
        simp only [Bool.and_eq_true] at h3
        exact s_asg (okE m c X Wx e F S.g S.tk h1).v (okT t c X Wx te F S.g S.tk h2) h3.2 h3.1.2 h3.1.1
      · unfold lcT at h3
        split at h3
        · rename_i i elt tg src ifs own
          cases te <;> first
            | exact absurd h3 Bool.false_ne_true
            | skip
          cases e <;> first
            | exact absurd h3 Bool.false_ne_true
            | skip
          rename_i y py x gens scope pc
          have h3 : (decide (c.N[i]? = some y) && decide (c.names.lookup y = some .local) && (py.line == pc.line) && !(scope.names.any fun (n, k) => n == y && (k == .local || k == .cell))) = true := h3
          simp only [Bool.and_eq_true, decide_eq_true_eq, Bool.not_eq_true'] at h3
          obtain ⟨⟨⟨h4, h5⟩, h6⟩, h7⟩ := h3
          rcases gens with _ | ⟨⟨t', it, ifx, n⟩, _ | ⟨_, _⟩⟩
          · exact absurd h1 Bool.false_ne_true
          · have q := okLc elt tg src ifs own c X Wx x t' it ifx scope n F S.g S.tk (okI src) (okT tg) (okF ifs) (okE elt) h1
            obtain ⟨q0, q⟩ := q
            subst q0
            have z := s_setLc (Wx := Wx) (p := pc) (pos := p) S.g h4 h5 h6 h7 q.1 q.2.2.1 q.2.2.2.1.1 q.2.2.2.2.1 q.2.2.2.2.2.1 q.2.2.2.2.2.2 q.2.1
            rw [q.2.2.2.1.2] at z
            exact z
          · exact absurd h1 Bool.false_ne_true
        · exact absurd h3 Bool.false_ne_true
    | _ => exact absurd h Bool.false_ne_true
  | .par i j a b => by
    intro c X Wx s F S h
    cases s with
    | Assign ts e p =>
      rcases ts with _ | ⟨te, _ | ⟨_, _⟩⟩
      · exact absurd h Bool.false_ne_true
      · cases te <;> first
          | exact absurd h Bool.false_ne_true
          | skip
        cases e <;> first
          | exact absurd h Bool.false_ne_true
          | skip
        rename_i ts kt pt vs kv pv
        rcases vs with _ | ⟨x, _ | ⟨y, _ | ⟨_, _⟩⟩⟩ <;> first
          | exact absurd h Bool.false_ne_true
          | skip
        have h : (parB c i j ts [x, y] && trE c a x && trE c b y) = true := h
        simp only [Bool.and_eq_true] at h
        obtain ⟨⟨h1, h2⟩, h3⟩ := h
        unfold parB at h1
        split at h1
        · rename_i n1 p1 n2 p2 x' y' heq
          cases heq
          simp only [Bool.and_eq_true, decide_eq_true_eq, Bool.not_eq_true'] at h1
          obtain ⟨⟨⟨⟨⟨⟨⟨⟨⟨⟨b1, b2⟩, b3⟩, b4⟩, b5⟩, b6⟩, b7⟩, b8⟩, b9⟩, b10⟩, b11⟩ := h1
          exact s_par S.g b1 b2 b3 b4 b5 (okE a c X Wx x F S.g S.tk h2).v (okE b c X Wx y F S.g S.tk h3).v (by rw [List.all_cons, List.all_cons, b8, b9]; rfl) fun env hk hn => par_ok hk (by rw [hn]; exact b4) (by rw [hn]; exact b5) b6 b7 b8 b9 b10 b11
        · exact absurd h1 Bool.false_ne_true
      · cases te <;> exact absurd h Bool.false_ne_true
    | _ => exact absurd h Bool.false_ne_true
  | .expr m => by
    intro c X Wx s F S h
    cases s with
    | Expr e p =>
      have h : (notComp e && trE c m e) = true := h
      simp only [Bool.and_eq_true] at h
      exact s_expr (okE m c X Wx e F S.g S.tk h.2).v h.1
    | _ => exact absurd h Bool.false_ne_true
  | .ret m => by
    intro c X Wx s F S h
    cases s with
    | Return o p =>
      cases o with
      | none => exact absurd h Bool.false_ne_true
      | some e => exact s_ret (okE m c X Wx e F S.g S.tk h).v
    | _ => exact absurd h Bool.false_ne_true
  | .retN => by
    intro c X Wx s F S h
    cases s with
    | Return o p =>
      cases o with
      | none => exact s_retN
      | some e => exact absurd h Bool.false_ne_true
    | _ => exact absurd h Bool.false_ne_true
  | .pass => by
    intro c X Wx s F S h
    cases s with
    | Pass p => exact s_pass
    | _ => exact absurd h Bool.false_ne_true
  | .brk => by
    intro c X Wx s F S h
    cases s with
    | Break p => exact s_brk
    | _ => exact absurd h Bool.false_ne_true
  | .cont => by
    intro c X Wx s F S h
    cases s with
    | Continue p => exact s_cont
    | _ => exact absurd h Bool.false_ne_true
  | .ife m a b => by
    intro c X Wx s F S h
    cases s with
    | If e x y p =>
      have h : (trE c m e && trSs c a x && trSs c b y) = true := h
      simp only [Bool.and_eq_true] at h
      exact s_if (okE m c X Wx e F S.g S.tk h.1.1).t (okSs a c X Wx x F S h.1.2) (okSs b c X Wx y F S h.2)
    | _ => exact absurd h Bool.false_ne_true
  | .for t m b => by
    intro c X Wx s F S h
    cases s with
    | For te e x o p =>
      cases o with
      | nil =>
        have h : (notSet e && trI c m te e && trT c t te && trSs c b x) = true := h
        simp only [Bool.and_eq_true] at h
        exact s_for S (okI m c X Wx te e F S.g S.tk h.1.1.2) (okT t c X Wx te F S.g S.tk h.1.2) (okSs b c X Wx x F S h.2) h.1.1.1
      | cons _ _ => exact absurd h Bool.false_ne_true
    | _ => exact absurd h Bool.false_ne_true
  | .while m b => by
    intro c X Wx s F S h
    cases s with
    | While e x o p =>
      cases o with
      | nil =>
        have h : (trE c m e && trSs c b x) = true := h
        simp only [Bool.and_eq_true] at h
        exact s_while S (okE m c X Wx e F S.g S.tk h.1).t (okSs b c X Wx x F S h.2)
      | cons _ _ => exact absurd h Bool.false_ne_true
    | _ => exact absurd h Bool.false_ne_true
  | .raise _ _ => fun c X Wx s F S h => absurd h Bool.false_ne_true
  | .try _ _ _ _ => fun c X Wx s F S h => absurd h Bool.false_ne_true
theorem okSs : ∀ (m : Mss) (c : Ctx) (X : Cx) (Wx : WX) (ss : List Stmt), Fc G C.cn lvl c.fs → Sx G lvl c X Wx → trSs c m ss = true → PSs X ss (tSt G Wx (evSs C m))
  | .nil => by
    intro c X Wx ss F S h
    cases ss with
    | nil => exact s_nil
    | cons _ _ => exact absurd h Bool.false_ne_true
  | .cons m .nil => by
    intro c X Wx ss F S h
    rcases ss with _ | ⟨s, _ | ⟨_, _⟩⟩
    · exact absurd h Bool.false_ne_true
    · exact s_one (okS m c X Wx s F S h)
    · exact absurd h Bool.false_ne_true
  | .cons m (.cons m2 ms) => by
    intro c X Wx ss F S h
    rcases ss with _ | ⟨s, _ | ⟨s2, ss⟩⟩
    · exact absurd h Bool.false_ne_true
    · exact absurd h Bool.false_ne_true
    · have h : (trS c m s && trSs c (.cons m2 ms) (s2 :: ss)) = true := h
      simp only [Bool.and_eq_true] at h
      exact s_cons (okS m c X Wx s F S h.1) (okSs (.cons m2 ms) c X Wx (s2 :: ss) F S h.2)
end
end
end MP
set_option maxRecDepth 100000
set_option maxHeartbeats 4000000
namespace MP
open PySem PySem.Spec PyProof.Rows L2

/-! ### defs -/
structure FD where
  ps : List Str
  N : List Str
  body : Mss
def startL (n : Nat) (ws : List W) : Lo := ws.map some ++ List.replicate (n - ws.length) none
def endF (r : RS) : R W := match r with
  | .ok (.rt w) _ h => .ok w h
  | .ok .nx _ h => .ok .non h
  | .exc x _ h => .exc x h
  | _ => .stuck
@[simp] theorem endF_rt (w : W) (ℓ : Lo) (h : List O) : endF (.ok (.rt w) ℓ h) = .ok w h := rfl
@[simp] theorem endF_nx (ℓ : Lo) (h : List O) : endF (.ok .nx ℓ h) = .ok .non h := rfl
@[simp] theorem endF_exc (x : Exn) (ℓ : Lo) (h : List O) : endF (.exc x ℓ h) = .exc x h := rfl
def runF (C : Cc) (d : FD) (ws : List W) (h : List O) : R W := if ws.length = d.ps.length then endF (evSs C d.body (startL d.N.length ws) h) else .stuck
def mkC (D : List (Str × FD)) (gl : Str → Option W) (isA : Str → Str → Bool) (fuel : Nat) : Nat → Cc
  | 0 => ⟨⟨fun _ _ _ => .stuck, gl, fuel⟩, isA⟩
  | k + 1 => ⟨⟨fun f ws h => match D.lookup f with
    | some d => runF (mkC D gl isA fuel k) d ws h
    | none => .stuck, gl, fuel⟩, isA⟩
def chkD (fs : List Str) (st : Stmt) (d : FD) : Bool := C8.scC d.N d.ps (defScope st) && trSs ⟨d.N, (defScope st).names, (defScope st).names, fs⟩ d.body (defBody st)
structure DefOk (G : Pg) (fs : List Str) (f : Str) (d : FD) : Prop where
  ex : ∃ st fa fd, Fun G.K f f st fa fd ∧ G.mg f = some (.ref fa) ∧ Binds G.K fd d.ps [] ∧ chkD fs st d = true
section
variable {G : Pg}
theorem lr_start {H : Hp} {ι : List Addr} {N : List Str} {ws : List W} {vs : List V} (hv : VRs G H ι ws vs) : LR G H ι (startL N.length ws) (L2.start N vs) := by
  have hl := hv.length
  refine ⟨by unfold startL L2.start; simp [hl], fun i w e => ?_⟩
  unfold getL startL at e
  by_cases hi : i < ws.length
  · rw [List.getElem?_append_left (by simpa using hi), List.getElem?_map, List.getElem?_eq_getElem hi] at e
    dsimp only [Option.map_some] at e
    cases e
    obtain ⟨v, h1, h2⟩ := hv.get (i := i) (w := ws[i]) (by simp [hi])
    refine ⟨v, ?_, h2⟩
    unfold L2.start
    rw [List.getElem?_append_left (by rw [List.length_map]; omega), List.getElem?_map, h1]
    rfl
  · rw [List.getElem?_append_right (by simpa using hi), List.getElem?_replicate] at e
    split at e
    · rename_i z
      split at z <;> cases z
    · cases e
theorem end_ok {C : Cc} {ι : List Addr} {H : Hp} {r : RS} {Q : VK} {E : XK} (p : Post G (fun cls d _ H => E cls d H) [] ι H (endF r) (Wants Q G)) : PostS G (fun cls d _ H => E cls d H) ι H r (DK G { nx := fun _ H' => Q .non H', rt := Q }) := by
  cases r with
  | stuck => exact p
  | exc x ℓ h => exact fun ι' H' σ' cls d s q l x => p ι' H' cls d s q x
  | ok f ℓ h =>
    cases f with
    | nx => exact fun ι' H' σ' s q l => p ι' H' s q _ .non
    | rt w => exact fun ι' H' σ' s q l => p ι' H' s q
    | bk => exact False.elim p
    | ct => exact False.elim p
/-- a def keeps its promise: what its tree says -/
theorem def_ok {C : Cc} {k : Nat} {fs : List Str} {f : Str} {d : FD} {st : Stmt} {fa : Addr} {fd : FuncData} (Fn : Fun G.K f f st fa fd) (hc : chkD fs st d = true) (F : Fc G C.cn k fs) : FnG G (k + 1) fa fd d.ps (spI G (runF C d) d.ps.length) := by
  unfold chkD at hc
  rw [Bool.and_eq_true] at hc
  obtain ⟨hS, hT⟩ := hc
  have S := C8.fnScope_by hS
  obtain ⟨oc, od, kV, doc, pm, an, cdv, ct, osl, rfl, lk, hcd⟩ := Fn.ex
  refine ⟨fun vs H Q E q => q.1, fun A outer s H args us vs Q E room gd e0 hb rv ⟨hlen, ι, h, ws, rel, hv, post⟩ => ?_⟩
  have inK : G.K.In s.heap := e0.mod.kin.keeps fun b o e => (e0.bs b o e).1
  have noLim : s.heap.NoLimit := e0.mod.nolimit.keeps fun b o e => (e0.bs b o e).1
  have kinds : ∀ y ∈ d.ps.zip us, (defScope st).names.lookup y.1 = some .local ∨ ((defScope st).names.lookup y.1 = some .cell ∧ ((cellsFrom (s.heap.objs.size + 1) (defScope st).names []).lookup y.1).isSome = true) := by
    rintro ⟨n, v⟩ hy
    exact (S.par n (List.of_mem_zip hy).1).imp id fun q => ⟨q, PySem.W.cellsFrom_some _ _ _ (.inl q)⟩
  refine codeAny_call_function room.depth (inK _ _ lk) rfl S.co S.gen rfl (PySem.W.codeRec_of inK hcd) (hb _ _ _ _ ?_)
  refine wpAny_newFunctionEnv_cells S.kind kinds fun env he s1 x => ?_
  subst he
  refine ⟨noLim.keeps x.toInCall.keep, codeAny_func ?_⟩
  have inv := inv_start (CX := L2.CX G.P G.w) (E := E) S room.hd e0 hlen rv x
  have gx : Gx G k ⟨d.N, (defScope st).names, (defScope st).names, fs⟩ (cxOf (L2.CX G.P G.w) G.P G.w G.K G.mg G.base d.N f (defScope st) fa cdv A outer s H E) :=
    ⟨rfl, rfl, rfl, rfl, rfl, rfl, S.nd, rfl, S.kind, fun x hx => ⟨hx, .inl rfl⟩, rfl, room.deeper _, gd⟩
  have sx : Sx G k ⟨d.N, (defScope st).names, (defScope st).names, fs⟩ (cxOf (L2.CX G.P G.w) G.P G.w G.K G.mg G.base d.N f (defScope st) fa cdv A outer s H E) (fun cls d _ H => E cls d H) :=
    ⟨gx, takes_of rfl rfl rfl rfl, passes_of rfl, rfl, rfl, rfl⟩
  have body := okSs (C := C) d.body _ _ _ _ F sx hT
  have hwl : ws.length = d.ps.length := hv.length.trans hlen
  unfold runF at post
  rw [if_pos hwl] at post
  have run := body.run [] s1 (L2.start d.N vs) H { nx := fun _ H' => Q .non H', rt := Q } inv ⟨ι, h, _, rel, lr_start hv, end_ok (C := C) post⟩
  refine wpAny_mono run (fun fl s' hs => ?_) fun e s' hs => hs
  cases fl with
  | ret u =>
    obtain ⟨v, σ', H', J, r', q⟩ := hs
    exact ⟨v, H', J.os, J.bare, J.base, J.hok, r', q⟩
  | next =>
    obtain ⟨σ', H', J, q⟩ := hs
    exact ⟨.non, H', J.os, J.bare, J.base, J.hok, rfl, q⟩
  | brk => exact False.elim hs.choose_spec.choose_spec.2
  | cont => exact False.elim hs.choose_spec.choose_spec.2
theorem mem_of_lookup {D : List (Str × FD)} {f : Str} {d : FD} : D.lookup f = some d → (f, d) ∈ D := by
  induction D with
  | nil => intro h; simp at h
  | cons p D ih =>
    obtain ⟨g, d'⟩ := p
    intro h
    rw [List.lookup_cons] at h
    cases hb : f == g with
    | true =>
      rw [hb] at h
      cases h
      have := beq_iff_eq.mp hb
      subst this
      exact List.mem_cons_self
    | false =>
      rw [hb] at h
      exact List.mem_cons_of_mem _ (ih h)
theorem lookup_of {D : List (Str × FD)} {f : Str} (h : f ∈ D.map (·.1)) : ∃ d, D.lookup f = some d := by
  induction D with
  | nil => simp at h
  | cons p D ih =>
    obtain ⟨g, d'⟩ := p
    rw [List.lookup_cons]
    cases hb : f == g with
    | true => exact ⟨d', rfl⟩
    | false =>
      rw [List.map_cons] at h
      rcases List.mem_cons.mp h with h | h
      · rw [h] at hb; simp at hb
      · exact ih h
theorem fc_all {D : List (Str × FD)} {gl : Str → Option W} {isA : Str → Str → Bool} {fuel : Nat} (hb : ∀ x ∈ bltNames, G.mg x = none) (hg : ∀ x w, gl x = some w → ∃ u v, G.mg x = some u ∧ RelV v u ∧ ∀ ι H, (∃ r, ι = G.i0 ++ r) → VR G H ι w v)
    (hD : ∀ p ∈ D, DefOk G (D.map (·.1)) p.1 p.2) : ∀ k, Fc G (mkC D gl isA fuel k).cn k (D.map (·.1))
  | 0 => by
    refine ⟨hb, hg, fun f hf => ?_⟩
    obtain ⟨d, hd⟩ := lookup_of hf
    obtain ⟨st, fa, fd, h1, h2, h3, h4⟩ := (hD _ (mem_of_lookup hd)).ex
    exact ⟨fa, fd, d.ps, h2, h1.kp, h3, ⟨fun vs H Q E q => q.1, fun A outer s H args us vs Q E room gd e0 hb rv ⟨hlen, ι, h, ws, rel, hv, post⟩ => False.elim post⟩, fun _ _ _ => rfl⟩
  | k + 1 => by
    have ih := fc_all (isA := isA) (fuel := fuel) hb hg hD k
    refine ⟨hb, hg, fun f hf => ?_⟩
    obtain ⟨d, hd⟩ := lookup_of hf
    obtain ⟨st, fa, fd, h1, h2, h3, h4⟩ := (hD _ (mem_of_lookup hd)).ex
    have e : (mkC D gl isA fuel (k + 1)).cn.call f = runF (mkC D gl isA fuel k) d := by
      funext ws h
      show (match D.lookup f with
        | some d => runF (mkC D gl isA fuel k) d ws h
        | none => .stuck) = _
      rw [hd]
    refine ⟨fa, fd, d.ps, h2, h1.kp, h3, ?_, fun ws h hl => ?_⟩
    · rw [e]
      exact def_ok h1 h4 ih
    · rw [e]
      unfold runF
      rw [if_neg hl]

/-! ### the law's call -/
/-- what may be tracked at the start: the script, unless the module's own -/
def hScr (K : PySem.W.Frag) (a : Addr) (o : Obj) (xs : List V) : Hp := fun b => if b = a ∧ K.lookup a = none then some (.frz o (.lst xs)) else none
theorem hScr_at {K : PySem.W.Frag} {a b : Addr} {o : Obj} {xs : List V} {u : HO} (h : hScr K a o xs b = some u) : b = a ∧ K.lookup a = none ∧ u = .frz o (.lst xs) := by
  unfold hScr at h
  split at h
  · rename_i z
    cases h
    exact ⟨z.1, z.2, rfl⟩
  · cases h
theorem law_callG {P : Program} {w : World} {K : PySem.W.Frag} {mg mb : Str → Option Value} {k : Nat} {fa a : Addr} {fd : FuncData} {x : Str} {m : List W → List O → R W} {s₁ : Shared} {vs : List Value} {ns : List Int}
    (KX : K.In s₁.heap) (hns : s₁.heap.Ns mainGlobals mg) (hb : s₁.heap.Ns builtinsNs mb) (hbb : ∀ x : Str, x ≠ "__name__" → mb x = bootBuiltins x) (hlim : s₁.heap.NoLimit) (hg : s₁.gens = #[])
    (ha : s₁.heap.get? a = some { cls := .type "list", data := .seq vs.toArray }) (hi : IntsAre vs ns) (hl : ns.length ≤ sizeLine) (hr : Room k callerA)
    (F : ∀ base : Heap, K.In base → base.Ns mainGlobals mg → ∃ G : Pg, G.P = P ∧ G.w = w ∧ G.K = K ∧ G.mg = mg ∧ G.base = base ∧ G.i0 = [] ∧ FnG G k fa fd [x] (spI G m 1)) (hbind : ∀ (s : Shared) (u : Value), BindsTo s fd ⟨[u], []⟩ [(x, u)])
    (hm : ∃ h', m [.slst (ns.map W.int)] [] = .ok (.bl true) h') :
    codeAny (model P w) callerA (.call (.ref fa) ⟨[.ref a], []⟩) (fun r s' => r = .ok (.ret (.bool true)) ∧ OldK s₁.heap s'.heap ∧ s'.os = s₁.os ∧ AllBare s'.gens) s₁ := by
  have rv := vals_ints hi
  have lenV := hi.length
  let o : Obj := { cls := .type "list", data := .seq vs.toArray }
  let H := hScr K a o (ns.map V.int)
  have free : ∀ {b : Addr} {q : Obj}, s₁.heap.get? b = some q → (b = a → K.lookup a ≠ none) → (hidT s₁.heap H).get? b = some q := fun {b q} e z => hidT_get e (by
    show hScr K a o (ns.map V.int) b = none
    unfold hScr
    exact if_neg fun y => z y.1 y.2)
  have dicts : ∀ {b : Addr} {mm : Str → Option Value}, s₁.heap.Ns b mm → (hidT s₁.heap H).Ns b mm := by
    rintro b mm ⟨q, es, ep, e, dd, r⟩
    refine ⟨q, es, ep, free e fun z => ?_, dd, r⟩
    subst z
    rw [ha] at e
    cases e
    cases (show Data.seq vs.toArray _ = Data.dict es ep from dd)
  have inB : K.In (hidT s₁.heap H) := fun b q e => free (KX b q e) fun z y => by subst z; rw [y] at e; cases e
  have md : Mod K mg (hidT s₁.heap H) := ⟨inB, dicts hns, ⟨mb, dicts hb, hbb⟩, let ⟨mc, h1, h2⟩ := hlim; ⟨mc, dicts h1, h2⟩⟩
  have hok : HOk P w H s₁.heap := by
    intro b u e
    obtain ⟨rfl, _, rfl⟩ := hScr_at e
    exact ⟨ha, by rw [List.length_map]; exact hl, vs, _, rv, ha⟩
  obtain ⟨G, rfl, rfl, rfl, rfl, hbase, hi0, fn⟩ := F (hidT s₁.heap H) inB (dicts hns)
  have stl : StL G.K H a (ns.map V.int) := by
    cases hk : G.K.lookup a with
    | some q =>
      have e := KX a q hk
      rw [ha] at e
      cases e
      exact .inr ⟨_, vs.toArray, _, hk, rfl, rfl, rfl, by rw [List.size_toArray, lenV]; exact hl, by simpa using rv⟩
    | none => exact .inl ⟨o, if_pos ⟨rfl, hk⟩⟩
  have e0 : Env0 G.P G.w G.K G.mg G.base callerA [] s₁ H := by
    rw [hbase]
    exact ⟨rfl, md, fun b q e => of_hidT e, Nat.le_of_eq (hidT_size _ _), trivial, fun b hb => absurd (show b ∈ ([] : List Addr) from hb) (by simp), hok, .of_eq hg⟩
  have vr : ∀ ns : List Int, VRs G H [] (ns.map W.int) (ns.map V.int) := by
    intro ns
    induction ns with
    | nil => exact .nil
    | cons n ns ih => exact .cons (.int n) ih
  obtain ⟨h', hm⟩ := hm
  have sp : spI G m 1 [.ref a] H (fun v _ => v = .bl true) (fun _ _ _ => False) := by
    refine ⟨rfl, [], [], [.slst (ns.map W.int)], ⟨rfl, fun n o a e => by simp at e, fun m n a e => by simp at e, ⟨[], by rw [hi0]; rfl⟩⟩, .cons (.slst stl (vr ns)) .nil, ?_⟩
    rw [hm]
    intro ι' H' s r v hv
    cases hv
    rfl
  refine codeAny_mono (fn.run callerA [] s₁ H ⟨[.ref a], []⟩ [.ref a] [.ref a] _ _ hr rfl e0 (hbind s₁ (.ref a)) (.cons rfl .nil) sp) fun r s' q => ?_
  match r, q with
  | .error e, q => obtain ⟨_, _, _, _, _, _, _, _, _, _, _, _, z⟩ := q; exact z.elim
  | .ok .next, q => exact False.elim q
  | .ok .brk, q => exact False.elim q
  | .ok .cont, q => exact False.elim q
  | .ok (.ret u), q =>
    obtain ⟨v, H', os, bare, un, hok', r', q⟩ := q
    have q' : v = .bl true := q
    subst q'
    obtain rfl : u = Value.bool true := r'
    refine ⟨rfl, OldK.of_keep fun b q e => ?_, os, bare⟩
    cases hH : H b with
    | none => exact un.keep b q e hH (fun z => absurd (show b ∈ ([] : List Addr) from z) (by simp)) (by simp)
    | some u =>
      obtain ⟨rfl, _, rfl⟩ := hScr_at hH
      obtain ⟨e2, _⟩ := hok' b _ (un.frzs b _ _ hH)
      rw [ha] at e
      cases e
      exact e2
theorem walkG {l : PySem.W.OpenLaw} {n k : Nat} {q : Program} {loose : List Str} {XP : (Str → Option Value) → Heap → Prop} {YP : World → Heap → Prop} {d : DefRec} {K : Params → PySem.W.Frag} {x : Str} {m : List W → List O → R W}
    (hn : l.most = some n) (hn2 : n ≤ sizeLine) (hdf : d.params.defaults = []) (hr : Room k callerA)
    (hY : ∀ (w : World) (h : Heap), YP w h → (K w.params).In h)
    (F : ∀ (w : World) (mg : Str → Option Value) (fa : Addr) (h : Heap), (K w.params).In h → h.Ns mainGlobals mg → mg d.name = some (.ref fa) →
      ∃ fd : FuncData, (∀ (s : Shared) (u : Value), BindsTo s fd ⟨[u], []⟩ [(x, u)]) ∧
        ∀ base : Heap, (K w.params).In base → base.Ns mainGlobals mg → ∃ G : Pg, G.P = l.prog ∧ G.w = w ∧ G.K = K w.params ∧ G.mg = mg ∧ G.base = base ∧ G.i0 = [] ∧ FnG G k fa fd [x] (spI G m 1))
    (hm : ∀ ns : List Int, ns.length ≤ n → ∃ h', m [.slst (ns.map W.int)] [] = .ok (.bl true) h') :
    PySem.W.WalkO q loose XP YP l.row.toRowW d [] (fun f vs => PySem.call f vs) := by
  refine Att.attach_call hn hdf fun w s₀ s₁ mg mb fa o pm cd doc a vs ns G Y ho hd hcd hmg hobj hints hlen hg => ?_
  obtain ⟨fd, hb, hF⟩ := F w mg fa _ (hY w _ Y) G.T.g hmg
  exact law_callG (hY w _ Y) G.T.g G.T.b G.T.builtins G.T.nolimit hg hobj hints (Nat.le_trans hlen hn2) hr hF hb (hm ns hlen)
end
end MP
set_option maxRecDepth 100000
set_option maxHeartbeats 4000000
namespace MP
open PySem PySem.Spec PyProof.Rows L2
theorem defOk_of {G : Pg} {h : Heap} {fs : List Str} {f : Str} {d : FD} {st : Stmt} {fa : Addr} {oc : Value} {od an : Option Addr} {osl : Array (Option Value)} {kV doc pm cdv ct : Value} (X : G.K.In h) (N : h.Ns mainGlobals G.mg)
    (a : PySem.W.nsIn G.K mainGlobals f = some (some (.ref fa))) (l : G.K.lookup fa = some ⟨oc, od, .func (PySem.W.fnOf f f (defArgs st) (defBody st) (defScope st) .none kV doc pm an cdv ct), osl⟩)
    (c : PySem.W.codeIn G.K cdv f = true) (k : PySem.W.keepIn G.K (.ref fa) = true)
    (hb : ∀ (kV doc pm : Value) (an : Option Addr) (cdv ct : Value) (us : List Value), us.length = d.ps.length → bindArgs (PySem.W.fnOf f f (defArgs st) (defBody st) (defScope st) .none kV doc pm an cdv ct) ⟨us, []⟩ = pure (d.ps.zip us))
    (hc : chkD fs st d = true) : DefOk G fs f d :=
  ⟨st, fa, _, fun_mk l c k, PySem.W.mg_of X N a, (fun_mk l c k).binds hb, hc⟩
/-- a module's constant -/
structure GlOk (G : Pg) (x : Str) (w : W) : Prop where
  ok : ∃ u v, G.mg x = some u ∧ RelV v u ∧ ∀ ι H, (∃ r, ι = G.i0 ++ r) → VR G H ι w v
theorem gl_str {G : Pg} {h : Heap} {x y : Str} {t : Tok} (X : G.K.In h) (N : h.Ns mainGlobals G.mg) (a : PySem.W.nsIn G.K mainGlobals x = some (some (.str y t))) : GlOk G x (.str y) := ⟨_, .str y, PySem.W.mg_of X N a, ⟨t, rfl⟩, fun _ _ _ => .str y⟩
theorem gl_int {G : Pg} {h : Heap} {x : Str} {y : Int} {t : Tok} (X : G.K.In h) (N : h.Ns mainGlobals G.mg) (a : PySem.W.nsIn G.K mainGlobals x = some (some (.int y t))) : GlOk G x (.int y) := ⟨_, .int y, PySem.W.mg_of X N a, ⟨t, rfl⟩, fun _ _ _ => .int y⟩
theorem mem_lookup' {α : Type} {D : List (Str × α)} {f : Str} {d : α} : D.lookup f = some d → (f, d) ∈ D := by
  induction D with
  | nil => intro h; simp at h
  | cons p D ih =>
    obtain ⟨g, d'⟩ := p
    intro h
    rw [List.lookup_cons] at h
    cases hb : f == g with
    | true =>
      rw [hb] at h
      cases h
      have := beq_iff_eq.mp hb
      subst this
      exact List.mem_cons_self
    | false =>
      rw [hb] at h
      exact List.mem_cons_of_mem _ (ih h)
/-- the law's promise from its def and what it leans on -/
theorem law_fn {G : Pg} {h : Heap} {D : List (Str × FD)} {gl : List (Str × W)} {isA : Str → Str → Bool} {fuel k : Nat} {d : FD} {st : Stmt} {fa : Addr} {f : Str} {oc : Value} {od an : Option Addr} {osl : Array (Option Value)} {kV doc pm cdv ct : Value} (X : G.K.In h) (N : h.Ns mainGlobals G.mg)
    (hb : ∀ x ∈ bltNames, PySem.W.nsIn G.K mainGlobals x = some none) (hg : ∀ p ∈ gl, GlOk G p.1 p.2) (hD : ∀ p ∈ D, DefOk G (D.map (·.1)) p.1 p.2)
    (l : G.K.lookup fa = some ⟨oc, od, .func (PySem.W.fnOf f f (defArgs st) (defBody st) (defScope st) .none kV doc pm an cdv ct), osl⟩)
    (c : PySem.W.codeIn G.K cdv f = true) (kp : PySem.W.keepIn G.K (.ref fa) = true) (hc : chkD (D.map (·.1)) st d = true) :
    FnG G (k + 1) fa (PySem.W.fnOf f f (defArgs st) (defBody st) (defScope st) .none kV doc pm an cdv ct) d.ps (spI G (runF (mkC D (fun x => gl.lookup x) isA fuel k) d) d.ps.length) :=
  def_ok (fun_mk l c kp) hc (fc_all (fun x hx => PySem.W.mg_none_of X N (hb x hx)) (fun x w e => (hg _ (mem_lookup' e)).ok) hD k)
end MP
set_option maxRecDepth 100000
set_option maxHeartbeats 4000000
namespace MP
open PySem PySem.Spec PyProof.Rows L2
/-! ### the interpreter's equations; what follows a step is not looked into before the step is done -/
def ifR {α : Type} (b : Bool) (x y : R α) (_t : Tag x := .mk) (_u : Tag y := .mk) : R α := if b = true then x else y
def ifS (b : Bool) (x y : RS) (_t : Tag x := .mk) (_u : Tag y := .mk) : RS := if b = true then x else y
@[simp] theorem ifR_t {α : Type} {x y : R α} : ifR true x y = x := rfl
@[simp] theorem ifR_f {α : Type} {x y : R α} : ifR false x y = y := rfl
@[simp] theorem ifS_t {x y : RS} : ifS true x y = x := rfl
@[simp] theorem ifS_f {x y : RS} : ifS false x y = y := rfl
@[simp] theorem noX_ok {α : Type} (a : α) (h : List O) : noX (R.ok a h) = R.ok a h := rfl
def negW (x : W) (h : List O) : R W := match x with | .int i => .ok (.int (-i)) h | _ => .stuck
@[simp] theorem negW_i (i : Int) (h : List O) : negW (.int i) h = .ok (.int (-i)) h := rfl
def subO (x : Opd) (y : W) (h : List O) : R W := match x with
    | .inl ws => match y with
      | .int i => ofO (atI ws i) h
      | _ => .stuck
    | .inr x => subW x y h
@[simp] theorem subO_l (ws : List W) (i : Int) (h : List O) : subO (.inl ws) (.int i) h = ofO (atI ws i) h := rfl
@[simp] theorem subO_r (x y : W) (h : List O) : subO (.inr x) y h = subW x y h := rfl
def sliceW (x : W) (l u : Option Int) (h : List O) : R W := match x with
    | .str z => chk (decide (z.length ≤ sizeLine)) (.ok (.str (cutS z l u)) h)
    | .tup ws => .ok (.tup (cutW ws l u)) h
    | x => (lsqO h (.inr x)).bind fun ws h => alloc (.lst (cutW ws l u)) h
@[simp] theorem sliceW_s (z : Str) (l u : Option Int) (h : List O) : sliceW (.str z) l u h = chk (decide (z.length ≤ sizeLine)) (.ok (.str (cutS z l u)) h) := rfl
def repW (ws : List W) (y : W) (h : List O) : R (List W) := match y with
    | .int k => chk (decide (-(2 ^ 63) ≤ k ∧ k < 2 ^ 63) && decide (ws.length * k.toNat ≤ sizeLine)) (.ok (List.replicate k.toNat ws).flatten h)
    | _ => .stuck
@[simp] theorem repW_i (ws : List W) (k : Int) (h : List O) : repW ws (.int k) h = chk (decide (-(2 ^ 63) ≤ k ∧ k < 2 ^ 63) && decide (ws.length * k.toNat ≤ sizeLine)) (.ok (List.replicate k.toNat ws).flatten h) := rfl
def lcBody (C : Cn) (elt : Me) (tg : Mt) (ifs : Mo) (ℓ0 : Lo) (w : W) (h : List O) : R (Option W) := (evt C tg w ℓ0 h).bind fun ℓ2 h => (evf C ifs ℓ2 h).bind fun k h => ifR k (((ev C elt).v ℓ2 h).bind fun y h => .ok (some y) h) (.ok none h)
def lenO (x : Opd) (h : List O) : R W := match x with
    | .inl ws => .ok (.int ws.length) h
    | .inr w => lenW w h
@[simp] theorem lenO_l (ws : List W) (h : List O) : lenO (.inl ws) h = .ok (.int ws.length) h := rfl
@[simp] theorem lenO_r (w : W) (h : List O) : lenO (.inr w) h = lenW w h := rfl
def strR {α : Type} (x : W) (f : Str → R α) (_t : Tag f := .mk) : R α := match x with
  | .str a => f a
  | _ => .stuck
@[simp] theorem strR_s {α : Type} (x : Str) (f : Str → R α) : strR (.str x) f = f x := rfl
def optI (w : W) (h : List O) : R (Option Int) := match w with
    | .int i => .ok (some i) h
    | _ => .stuck
@[simp] theorem optI_i (i : Int) (h : List O) : optI (.int i) h = .ok (some i) h := rfl
def forBody (C : Cc) (t : Mt) (b : Mss) (w : W) (ℓ : Lo) (h : List O) : RS := liftE ℓ (noX (evt C.cn t w ℓ h)) fun ℓ h => evSs C b ℓ h
def blR (w : W) (h : List O) : R Bool := match w with
  | .bl b => .ok b h
  | _ => .stuck
@[simp] theorem blR_b (b : Bool) (h : List O) : blR (.bl b) h = .ok b h := rfl
@[simp] theorem unBl_ok' (b : Bool) (h : List O) : unBl (.ok (.bl b) h) = .ok b h := rfl
section
variable (C : Cn) (ℓ : Lo) (h : List O)

@[simp] theorem v_var (i : Nat) : (ev C (.var i)).v ℓ h = (ofO (getL ℓ i) h) := by rfl
@[simp] theorem t_var (i : Nat) : (ev C (.var i)).t ℓ h = ((ofO (getL ℓ i) h) : R W).bind fun w h => truR h w := by rfl
@[simp] theorem l_var (i : Nat) : (ev C (.var i)).l ℓ h = ((ofO (getL ℓ i) h) : R W).bind fun w h => seqR h w := by rfl
@[simp] theorem o_var (i : Nat) : (ev C (.var i)).opd ℓ h = ((ofO (getL ℓ i) h) : R W).bind fun w h => .ok (.inr w) h := by rfl
@[simp] theorem v_glob (x : Str) : (ev C (.glob x)).v ℓ h = (ofO (C.gl x) h) := by rfl
@[simp] theorem t_glob (x : Str) : (ev C (.glob x)).t ℓ h = ((ofO (C.gl x) h) : R W).bind fun w h => truR h w := by rfl
@[simp] theorem l_glob (x : Str) : (ev C (.glob x)).l ℓ h = ((ofO (C.gl x) h) : R W).bind fun w h => seqR h w := by rfl
@[simp] theorem o_glob (x : Str) : (ev C (.glob x)).opd ℓ h = ((ofO (C.gl x) h) : R W).bind fun w h => .ok (.inr w) h := by rfl
@[simp] theorem v_non  : (ev C .non).v ℓ h = (.ok .non h) := by rfl
@[simp] theorem t_non  : (ev C .non).t ℓ h = ((.ok .non h) : R W).bind fun w h => truR h w := by rfl
@[simp] theorem l_non  : (ev C .non).l ℓ h = ((.ok .non h) : R W).bind fun w h => seqR h w := by rfl
@[simp] theorem o_non  : (ev C .non).opd ℓ h = ((.ok .non h) : R W).bind fun w h => .ok (.inr w) h := by rfl
@[simp] theorem v_bl (b : Bool) : (ev C (.bl b)).v ℓ h = (.ok (.bl b) h) := by rfl
@[simp] theorem t_bl (b : Bool) : (ev C (.bl b)).t ℓ h = ((.ok (.bl b) h) : R W).bind fun w h => truR h w := by rfl
@[simp] theorem l_bl (b : Bool) : (ev C (.bl b)).l ℓ h = ((.ok (.bl b) h) : R W).bind fun w h => seqR h w := by rfl
@[simp] theorem o_bl (b : Bool) : (ev C (.bl b)).opd ℓ h = ((.ok (.bl b) h) : R W).bind fun w h => .ok (.inr w) h := by rfl
@[simp] theorem v_int (i : Int) : (ev C (.int i)).v ℓ h = (.ok (.int i) h) := by rfl
@[simp] theorem t_int (i : Int) : (ev C (.int i)).t ℓ h = ((.ok (.int i) h) : R W).bind fun w h => truR h w := by rfl
@[simp] theorem l_int (i : Int) : (ev C (.int i)).l ℓ h = ((.ok (.int i) h) : R W).bind fun w h => seqR h w := by rfl
@[simp] theorem o_int (i : Int) : (ev C (.int i)).opd ℓ h = ((.ok (.int i) h) : R W).bind fun w h => .ok (.inr w) h := by rfl
@[simp] theorem v_str (x : Str) : (ev C (.str x)).v ℓ h = (.ok (.str x) h) := by rfl
@[simp] theorem t_str (x : Str) : (ev C (.str x)).t ℓ h = ((.ok (.str x) h) : R W).bind fun w h => truR h w := by rfl
@[simp] theorem l_str (x : Str) : (ev C (.str x)).l ℓ h = ((.ok (.str x) h) : R W).bind fun w h => seqR h w := by rfl
@[simp] theorem o_str (x : Str) : (ev C (.str x)).opd ℓ h = ((.ok (.str x) h) : R W).bind fun w h => .ok (.inr w) h := by rfl
@[simp] theorem v_tup (es : Mes) : (ev C (.tup es)).v ℓ h = ((evs C es ℓ h).bind fun ws h => chk (decide (ws.length ≤ sizeLine)) (.ok (.tup ws) h)) := by rfl
@[simp] theorem t_tup (es : Mes) : (ev C (.tup es)).t ℓ h = (((evs C es ℓ h).bind fun ws h => chk (decide (ws.length ≤ sizeLine)) (.ok (.tup ws) h)) : R W).bind fun w h => truR h w := by rfl
@[simp] theorem l_tup (es : Mes) : (ev C (.tup es)).l ℓ h = (((evs C es ℓ h).bind fun ws h => chk (decide (ws.length ≤ sizeLine)) (.ok (.tup ws) h)) : R W).bind fun w h => seqR h w := by rfl
@[simp] theorem o_tup (es : Mes) : (ev C (.tup es)).opd ℓ h = (((evs C es ℓ h).bind fun ws h => chk (decide (ws.length ≤ sizeLine)) (.ok (.tup ws) h)) : R W).bind fun w h => .ok (.inr w) h := by rfl
@[simp] theorem v_dct (kvs : Mks) : (ev C (.dct kvs)).v ℓ h = ((evd C kvs ℓ h).bind fun kvs h => chk (decide (kvs.length ≤ 15)) (alloc (.dct (mergeW [] kvs)) h)) := by rfl
@[simp] theorem t_dct (kvs : Mks) : (ev C (.dct kvs)).t ℓ h = (((evd C kvs ℓ h).bind fun kvs h => chk (decide (kvs.length ≤ 15)) (alloc (.dct (mergeW [] kvs)) h)) : R W).bind fun w h => truR h w := by rfl
@[simp] theorem l_dct (kvs : Mks) : (ev C (.dct kvs)).l ℓ h = (((evd C kvs ℓ h).bind fun kvs h => chk (decide (kvs.length ≤ 15)) (alloc (.dct (mergeW [] kvs)) h)) : R W).bind fun w h => seqR h w := by rfl
@[simp] theorem o_dct (kvs : Mks) : (ev C (.dct kvs)).opd ℓ h = (((evd C kvs ℓ h).bind fun kvs h => chk (decide (kvs.length ≤ 15)) (alloc (.dct (mergeW [] kvs)) h)) : R W).bind fun w h => .ok (.inr w) h := by rfl
@[simp] theorem v_bin (op : Operator) (a b : Me) : (ev C (.bin op a b)).v ℓ h = (((ev C a).v ℓ h).bind fun x h => ((ev C b).v ℓ h).bind fun y h => binW op x y h) := by rfl
@[simp] theorem t_bin (op : Operator) (a b : Me) : (ev C (.bin op a b)).t ℓ h = ((((ev C a).v ℓ h).bind fun x h => ((ev C b).v ℓ h).bind fun y h => binW op x y h) : R W).bind fun w h => truR h w := by rfl
@[simp] theorem l_bin (op : Operator) (a b : Me) : (ev C (.bin op a b)).l ℓ h = ((((ev C a).v ℓ h).bind fun x h => ((ev C b).v ℓ h).bind fun y h => binW op x y h) : R W).bind fun w h => seqR h w := by rfl
@[simp] theorem o_bin (op : Operator) (a b : Me) : (ev C (.bin op a b)).opd ℓ h = ((((ev C a).v ℓ h).bind fun x h => ((ev C b).v ℓ h).bind fun y h => binW op x y h) : R W).bind fun w h => .ok (.inr w) h := by rfl
@[simp] theorem v_neg (a : Me) : (ev C (.neg a)).v ℓ h = (((ev C a).v ℓ h).bind fun x h => negW x h) := by rfl
@[simp] theorem t_neg (a : Me) : (ev C (.neg a)).t ℓ h = ((((ev C a).v ℓ h).bind fun x h => negW x h) : R W).bind fun w h => truR h w := by rfl
@[simp] theorem l_neg (a : Me) : (ev C (.neg a)).l ℓ h = ((((ev C a).v ℓ h).bind fun x h => negW x h) : R W).bind fun w h => seqR h w := by rfl
@[simp] theorem o_neg (a : Me) : (ev C (.neg a)).opd ℓ h = ((((ev C a).v ℓ h).bind fun x h => negW x h) : R W).bind fun w h => .ok (.inr w) h := by rfl
@[simp] theorem v_call (f : Str) (es : Mes) : (ev C (.call f es)).v ℓ h = ((evs C es ℓ h).bind fun ws h => C.call f ws h) := by rfl
@[simp] theorem t_call (f : Str) (es : Mes) : (ev C (.call f es)).t ℓ h = (((evs C es ℓ h).bind fun ws h => C.call f ws h) : R W).bind fun w h => truR h w := by rfl
@[simp] theorem l_call (f : Str) (es : Mes) : (ev C (.call f es)).l ℓ h = (((evs C es ℓ h).bind fun ws h => C.call f ws h) : R W).bind fun w h => seqR h w := by rfl
@[simp] theorem o_call (f : Str) (es : Mes) : (ev C (.call f es)).opd ℓ h = (((evs C es ℓ h).bind fun ws h => C.call f ws h) : R W).bind fun w h => .ok (.inr w) h := by rfl
@[simp] theorem v_isi (a : Me) (ts : List String) : (ev C (.isi a ts)).v ℓ h = (((ev C a).v ℓ h).bind fun w h => isiW ts w h) := by rfl
@[simp] theorem t_isi (a : Me) (ts : List String) : (ev C (.isi a ts)).t ℓ h = ((((ev C a).v ℓ h).bind fun w h => isiW ts w h) : R W).bind fun w h => truR h w := by rfl
@[simp] theorem l_isi (a : Me) (ts : List String) : (ev C (.isi a ts)).l ℓ h = ((((ev C a).v ℓ h).bind fun w h => isiW ts w h) : R W).bind fun w h => seqR h w := by rfl
@[simp] theorem o_isi (a : Me) (ts : List String) : (ev C (.isi a ts)).opd ℓ h = ((((ev C a).v ℓ h).bind fun w h => isiW ts w h) : R W).bind fun w h => .ok (.inr w) h := by rfl
@[simp] theorem v_sub (a i : Me) : (ev C (.sub a i)).v ℓ h = (((ev C a).opd ℓ h).bind fun x h => ((ev C i).v ℓ h).bind fun y h => subO x y h) := by rfl
@[simp] theorem t_sub (a i : Me) : (ev C (.sub a i)).t ℓ h = ((((ev C a).opd ℓ h).bind fun x h => ((ev C i).v ℓ h).bind fun y h => subO x y h) : R W).bind fun w h => truR h w := by rfl
@[simp] theorem l_sub (a i : Me) : (ev C (.sub a i)).l ℓ h = ((((ev C a).opd ℓ h).bind fun x h => ((ev C i).v ℓ h).bind fun y h => subO x y h) : R W).bind fun w h => seqR h w := by rfl
@[simp] theorem o_sub (a i : Me) : (ev C (.sub a i)).opd ℓ h = ((((ev C a).opd ℓ h).bind fun x h => ((ev C i).v ℓ h).bind fun y h => subO x y h) : R W).bind fun w h => .ok (.inr w) h := by rfl
@[simp] theorem v_slice (a : Me) (lo hi : Mo) : (ev C (.slice a lo hi)).v ℓ h = (((ev C a).v ℓ h).bind fun x h => (evo C lo ℓ h).bind fun l h => (evo C hi ℓ h).bind fun u h => sliceW x l u h) := by rfl
@[simp] theorem t_slice (a : Me) (lo hi : Mo) : (ev C (.slice a lo hi)).t ℓ h = ((((ev C a).v ℓ h).bind fun x h => (evo C lo ℓ h).bind fun l h => (evo C hi ℓ h).bind fun u h => sliceW x l u h) : R W).bind fun w h => truR h w := by rfl
@[simp] theorem l_slice (a : Me) (lo hi : Mo) : (ev C (.slice a lo hi)).l ℓ h = ((((ev C a).v ℓ h).bind fun x h => (evo C lo ℓ h).bind fun l h => (evo C hi ℓ h).bind fun u h => sliceW x l u h) : R W).bind fun w h => seqR h w := by rfl
@[simp] theorem o_slice (a : Me) (lo hi : Mo) : (ev C (.slice a lo hi)).opd ℓ h = ((((ev C a).v ℓ h).bind fun x h => (evo C lo ℓ h).bind fun l h => (evo C hi ℓ h).bind fun u h => sliceW x l u h) : R W).bind fun w h => .ok (.inr w) h := by rfl
@[simp] theorem v_lst (es : Mes) : (ev C (.lst es)).v ℓ h = (((evs C es ℓ h).bind fun ws h => chk (decide (ws.length ≤ sizeLine)) (.ok ws h)) : R (List W)).bind fun ws h => alloc (.lst ws) h := by rfl
@[simp] theorem t_lst (es : Mes) : (ev C (.lst es)).t ℓ h = (((evs C es ℓ h).bind fun ws h => chk (decide (ws.length ≤ sizeLine)) (.ok ws h)) : R (List W)).bind fun ws h => .ok (!ws.isEmpty) h := by rfl
@[simp] theorem l_lst (es : Mes) : (ev C (.lst es)).l ℓ h = ((evs C es ℓ h).bind fun ws h => chk (decide (ws.length ≤ sizeLine)) (.ok ws h)) := by rfl
@[simp] theorem o_lst (es : Mes) : (ev C (.lst es)).opd ℓ h = (((evs C es ℓ h).bind fun ws h => chk (decide (ws.length ≤ sizeLine)) (.ok ws h)) : R (List W)).bind fun ws h => .ok (.inl ws) h := by rfl
@[simp] theorem v_lrep (a n : Me) : (ev C (.lrep a n)).v ℓ h = ((((ev C a).l ℓ h).bind fun ws h => ((ev C n).v ℓ h).bind fun y h => repW ws y h) : R (List W)).bind fun ws h => alloc (.lst ws) h := by rfl
@[simp] theorem t_lrep (a n : Me) : (ev C (.lrep a n)).t ℓ h = ((((ev C a).l ℓ h).bind fun ws h => ((ev C n).v ℓ h).bind fun y h => repW ws y h) : R (List W)).bind fun ws h => .ok (!ws.isEmpty) h := by rfl
@[simp] theorem l_lrep (a n : Me) : (ev C (.lrep a n)).l ℓ h = (((ev C a).l ℓ h).bind fun ws h => ((ev C n).v ℓ h).bind fun y h => repW ws y h) := by rfl
@[simp] theorem o_lrep (a n : Me) : (ev C (.lrep a n)).opd ℓ h = ((((ev C a).l ℓ h).bind fun ws h => ((ev C n).v ℓ h).bind fun y h => repW ws y h) : R (List W)).bind fun ws h => .ok (.inl ws) h := by rfl
@[simp] theorem v_lcat (a b : Me) : (ev C (.lcat a b)).v ℓ h = ((((ev C a).opd ℓ h).bind fun x h => ((ev C b).opd ℓ h).bind fun y h => (lstO h x).bind fun xs h => (lstO h y).bind fun ys h => chk (decide (xs.length + ys.length ≤ sizeLine)) (.ok (xs ++ ys) h)) : R (List W)).bind fun ws h => alloc (.lst ws) h := by rfl
@[simp] theorem t_lcat (a b : Me) : (ev C (.lcat a b)).t ℓ h = ((((ev C a).opd ℓ h).bind fun x h => ((ev C b).opd ℓ h).bind fun y h => (lstO h x).bind fun xs h => (lstO h y).bind fun ys h => chk (decide (xs.length + ys.length ≤ sizeLine)) (.ok (xs ++ ys) h)) : R (List W)).bind fun ws h => .ok (!ws.isEmpty) h := by rfl
@[simp] theorem l_lcat (a b : Me) : (ev C (.lcat a b)).l ℓ h = (((ev C a).opd ℓ h).bind fun x h => ((ev C b).opd ℓ h).bind fun y h => (lstO h x).bind fun xs h => (lstO h y).bind fun ys h => chk (decide (xs.length + ys.length ≤ sizeLine)) (.ok (xs ++ ys) h)) := by rfl
@[simp] theorem o_lcat (a b : Me) : (ev C (.lcat a b)).opd ℓ h = ((((ev C a).opd ℓ h).bind fun x h => ((ev C b).opd ℓ h).bind fun y h => (lstO h x).bind fun xs h => (lstO h y).bind fun ys h => chk (decide (xs.length + ys.length ≤ sizeLine)) (.ok (xs ++ ys) h)) : R (List W)).bind fun ws h => .ok (.inl ws) h := by rfl
@[simp] theorem v_lcut (a : Me) (lo hi : Mo) : (ev C (.lcut a lo hi)).v ℓ h = ((((ev C a).opd ℓ h).bind fun x h => (evo C lo ℓ h).bind fun l h => (evo C hi ℓ h).bind fun u h => (lsqO h x).bind fun ws h => .ok (cutW ws l u) h) : R (List W)).bind fun ws h => alloc (.lst ws) h := by rfl
@[simp] theorem t_lcut (a : Me) (lo hi : Mo) : (ev C (.lcut a lo hi)).t ℓ h = ((((ev C a).opd ℓ h).bind fun x h => (evo C lo ℓ h).bind fun l h => (evo C hi ℓ h).bind fun u h => (lsqO h x).bind fun ws h => .ok (cutW ws l u) h) : R (List W)).bind fun ws h => .ok (!ws.isEmpty) h := by rfl
@[simp] theorem l_lcut (a : Me) (lo hi : Mo) : (ev C (.lcut a lo hi)).l ℓ h = (((ev C a).opd ℓ h).bind fun x h => (evo C lo ℓ h).bind fun l h => (evo C hi ℓ h).bind fun u h => (lsqO h x).bind fun ws h => .ok (cutW ws l u) h) := by rfl
@[simp] theorem o_lcut (a : Me) (lo hi : Mo) : (ev C (.lcut a lo hi)).opd ℓ h = ((((ev C a).opd ℓ h).bind fun x h => (evo C lo ℓ h).bind fun l h => (evo C hi ℓ h).bind fun u h => (lsqO h x).bind fun ws h => .ok (cutW ws l u) h) : R (List W)).bind fun ws h => .ok (.inl ws) h := by rfl
@[simp] theorem v_lcomp (elt : Me) (tg : Mt) (src : Mi) (ifs : Mo) (own : List Nat) : (ev C (.lcomp elt tg src ifs own)).v ℓ h = (((evi C src ℓ h).bind fun r h => lcLoop (lcBody C elt tg ifs (wipeL ℓ own)) r.2 0 r.1 h) : R (List W)).bind fun ws h => alloc (.lst ws) h := by rfl
@[simp] theorem t_lcomp (elt : Me) (tg : Mt) (src : Mi) (ifs : Mo) (own : List Nat) : (ev C (.lcomp elt tg src ifs own)).t ℓ h = (((evi C src ℓ h).bind fun r h => lcLoop (lcBody C elt tg ifs (wipeL ℓ own)) r.2 0 r.1 h) : R (List W)).bind fun ws h => .ok (!ws.isEmpty) h := by rfl
@[simp] theorem l_lcomp (elt : Me) (tg : Mt) (src : Mi) (ifs : Mo) (own : List Nat) : (ev C (.lcomp elt tg src ifs own)).l ℓ h = ((evi C src ℓ h).bind fun r h => lcLoop (lcBody C elt tg ifs (wipeL ℓ own)) r.2 0 r.1 h) := by rfl
@[simp] theorem o_lcomp (elt : Me) (tg : Mt) (src : Mi) (ifs : Mo) (own : List Nat) : (ev C (.lcomp elt tg src ifs own)).opd ℓ h = (((evi C src ℓ h).bind fun r h => lcLoop (lcBody C elt tg ifs (wipeL ℓ own)) r.2 0 r.1 h) : R (List W)).bind fun ws h => .ok (.inl ws) h := by rfl
@[simp] theorem v_not (a : Me) : (ev C (.not a)).v ℓ h = (((ev C a).v ℓ h).bind fun w h => (truR h w).bind fun b h => .ok (.bl (!b)) h) := by rfl
@[simp] theorem t_not (a : Me) : (ev C (.not a)).t ℓ h = (((ev C a).t ℓ h).bind fun b h => .ok (!b) h) := by rfl
@[simp] theorem l_not (a : Me) : (ev C (.not a)).l ℓ h = ((((ev C a).v ℓ h).bind fun w h => (truR h w).bind fun b h => .ok (.bl (!b)) h) : R W).bind fun w h => seqR h w := by rfl
@[simp] theorem o_not (a : Me) : (ev C (.not a)).opd ℓ h = ((((ev C a).v ℓ h).bind fun w h => (truR h w).bind fun b h => .ok (.bl (!b)) h) : R W).bind fun w h => .ok (.inr w) h := by rfl
@[simp] theorem v_cmp (op : CmpOp) (a b : Me) : (ev C (.cmp op a b)).v ℓ h = (((ev C a).opd ℓ h).bind fun x h => ((ev C b).opd ℓ h).bind fun y h => cmpO op x y h) := by rfl
@[simp] theorem t_cmp (op : CmpOp) (a b : Me) : (ev C (.cmp op a b)).t ℓ h = (unBl (((ev C a).opd ℓ h).bind fun x h => ((ev C b).opd ℓ h).bind fun y h => cmpO op x y h)) := by rfl
@[simp] theorem l_cmp (op : CmpOp) (a b : Me) : (ev C (.cmp op a b)).l ℓ h = ((((ev C a).opd ℓ h).bind fun x h => ((ev C b).opd ℓ h).bind fun y h => cmpO op x y h) : R W).bind fun w h => seqR h w := by rfl
@[simp] theorem o_cmp (op : CmpOp) (a b : Me) : (ev C (.cmp op a b)).opd ℓ h = ((((ev C a).opd ℓ h).bind fun x h => ((ev C b).opd ℓ h).bind fun y h => cmpO op x y h) : R W).bind fun w h => .ok (.inr w) h := by rfl
@[simp] theorem v_chain (op1 op2 : CmpOp) (a b c : Me) : (ev C (.chain op1 op2 a b c)).v ℓ h = (((ev C a).v ℓ h).bind fun x h => ((ev C b).v ℓ h).bind fun y h => (unBl (cmpW op1 x y h)).bind fun k h => ifR k (((ev C c).v ℓ h).bind fun z h => cmpW op2 y z h) (.ok (.bl false) h)) := by rfl
@[simp] theorem t_chain (op1 op2 : CmpOp) (a b c : Me) : (ev C (.chain op1 op2 a b c)).t ℓ h = (unBl (((ev C a).v ℓ h).bind fun x h => ((ev C b).v ℓ h).bind fun y h => (unBl (cmpW op1 x y h)).bind fun k h => ifR k (((ev C c).v ℓ h).bind fun z h => cmpW op2 y z h) (.ok (.bl false) h))) := by rfl
@[simp] theorem l_chain (op1 op2 : CmpOp) (a b c : Me) : (ev C (.chain op1 op2 a b c)).l ℓ h = ((((ev C a).v ℓ h).bind fun x h => ((ev C b).v ℓ h).bind fun y h => (unBl (cmpW op1 x y h)).bind fun k h => ifR k (((ev C c).v ℓ h).bind fun z h => cmpW op2 y z h) (.ok (.bl false) h)) : R W).bind fun w h => seqR h w := by rfl
@[simp] theorem o_chain (op1 op2 : CmpOp) (a b c : Me) : (ev C (.chain op1 op2 a b c)).opd ℓ h = ((((ev C a).v ℓ h).bind fun x h => ((ev C b).v ℓ h).bind fun y h => (unBl (cmpW op1 x y h)).bind fun k h => ifR k (((ev C c).v ℓ h).bind fun z h => cmpW op2 y z h) (.ok (.bl false) h)) : R W).bind fun w h => .ok (.inr w) h := by rfl
@[simp] theorem v_ife (c a b : Me) : (ev C (.ife c a b)).v ℓ h = (((ev C c).t ℓ h).bind fun k h => ifR k ((ev C a).v ℓ h) ((ev C b).v ℓ h)) := by rfl
@[simp] theorem t_ife (c a b : Me) : (ev C (.ife c a b)).t ℓ h = (((ev C c).t ℓ h).bind fun k h => ifR k ((ev C a).t ℓ h) ((ev C b).t ℓ h)) := by rfl
@[simp] theorem l_ife (c a b : Me) : (ev C (.ife c a b)).l ℓ h = ((((ev C c).t ℓ h).bind fun k h => ifR k ((ev C a).v ℓ h) ((ev C b).v ℓ h)) : R W).bind fun w h => seqR h w := by rfl
@[simp] theorem o_ife (c a b : Me) : (ev C (.ife c a b)).opd ℓ h = ((((ev C c).t ℓ h).bind fun k h => ifR k ((ev C a).v ℓ h) ((ev C b).v ℓ h)) : R W).bind fun w h => .ok (.inr w) h := by rfl
@[simp] theorem v_b2And (a b : Me) : (ev C (.boolop .And (.cons a (.cons b .nil)))).v ℓ h = (((ev C a).v ℓ h).bind fun w h => (truR h w).bind fun k h => ifR k ((ev C b).v ℓ h) (.ok w h)) := by rfl
@[simp] theorem t_b2And (a b : Me) : (ev C (.boolop .And (.cons a (.cons b .nil)))).t ℓ h = (((ev C a).t ℓ h).bind fun k h => ifR k ((ev C b).t ℓ h) (.ok false h)) := by rfl
@[simp] theorem l_b2And (a b : Me) : (ev C (.boolop .And (.cons a (.cons b .nil)))).l ℓ h = ((((ev C a).v ℓ h).bind fun w h => (truR h w).bind fun k h => ifR k ((ev C b).v ℓ h) (.ok w h)) : R W).bind fun w h => seqR h w := by rfl
@[simp] theorem o_b2And (a b : Me) : (ev C (.boolop .And (.cons a (.cons b .nil)))).opd ℓ h = ((((ev C a).v ℓ h).bind fun w h => (truR h w).bind fun k h => ifR k ((ev C b).v ℓ h) (.ok w h)) : R W).bind fun w h => .ok (.inr w) h := by rfl
@[simp] theorem v_b3And (a b d : Me) (es : Mes) : (ev C (.boolop .And (.cons a (.cons b (.cons d es))))).v ℓ h = (((ev C a).v ℓ h).bind fun w h => (truR h w).bind fun k h => ifR k ((ev C (.boolop .And (.cons b (.cons d es)))).v ℓ h) (.ok w h)) := by rfl
@[simp] theorem t_b3And (a b d : Me) (es : Mes) : (ev C (.boolop .And (.cons a (.cons b (.cons d es))))).t ℓ h = (((ev C a).t ℓ h).bind fun k h => ifR k ((ev C (.boolop .And (.cons b (.cons d es)))).t ℓ h) (.ok false h)) := by rfl
@[simp] theorem l_b3And (a b d : Me) (es : Mes) : (ev C (.boolop .And (.cons a (.cons b (.cons d es))))).l ℓ h = ((((ev C a).v ℓ h).bind fun w h => (truR h w).bind fun k h => ifR k ((ev C (.boolop .And (.cons b (.cons d es)))).v ℓ h) (.ok w h)) : R W).bind fun w h => seqR h w := by rfl
@[simp] theorem o_b3And (a b d : Me) (es : Mes) : (ev C (.boolop .And (.cons a (.cons b (.cons d es))))).opd ℓ h = ((((ev C a).v ℓ h).bind fun w h => (truR h w).bind fun k h => ifR k ((ev C (.boolop .And (.cons b (.cons d es)))).v ℓ h) (.ok w h)) : R W).bind fun w h => .ok (.inr w) h := by rfl
@[simp] theorem v_b2Or (a b : Me) : (ev C (.boolop .Or (.cons a (.cons b .nil)))).v ℓ h = (((ev C a).v ℓ h).bind fun w h => (truR h w).bind fun k h => ifR k (.ok w h) ((ev C b).v ℓ h)) := by rfl
@[simp] theorem t_b2Or (a b : Me) : (ev C (.boolop .Or (.cons a (.cons b .nil)))).t ℓ h = (((ev C a).t ℓ h).bind fun k h => ifR k (.ok true h) ((ev C b).t ℓ h)) := by rfl
@[simp] theorem l_b2Or (a b : Me) : (ev C (.boolop .Or (.cons a (.cons b .nil)))).l ℓ h = ((((ev C a).v ℓ h).bind fun w h => (truR h w).bind fun k h => ifR k (.ok w h) ((ev C b).v ℓ h)) : R W).bind fun w h => seqR h w := by rfl
@[simp] theorem o_b2Or (a b : Me) : (ev C (.boolop .Or (.cons a (.cons b .nil)))).opd ℓ h = ((((ev C a).v ℓ h).bind fun w h => (truR h w).bind fun k h => ifR k (.ok w h) ((ev C b).v ℓ h)) : R W).bind fun w h => .ok (.inr w) h := by rfl
@[simp] theorem v_b3Or (a b d : Me) (es : Mes) : (ev C (.boolop .Or (.cons a (.cons b (.cons d es))))).v ℓ h = (((ev C a).v ℓ h).bind fun w h => (truR h w).bind fun k h => ifR k (.ok w h) ((ev C (.boolop .Or (.cons b (.cons d es)))).v ℓ h)) := by rfl
@[simp] theorem t_b3Or (a b d : Me) (es : Mes) : (ev C (.boolop .Or (.cons a (.cons b (.cons d es))))).t ℓ h = (((ev C a).t ℓ h).bind fun k h => ifR k (.ok true h) ((ev C (.boolop .Or (.cons b (.cons d es)))).t ℓ h)) := by rfl
@[simp] theorem l_b3Or (a b d : Me) (es : Mes) : (ev C (.boolop .Or (.cons a (.cons b (.cons d es))))).l ℓ h = ((((ev C a).v ℓ h).bind fun w h => (truR h w).bind fun k h => ifR k (.ok w h) ((ev C (.boolop .Or (.cons b (.cons d es)))).v ℓ h)) : R W).bind fun w h => seqR h w := by rfl
@[simp] theorem o_b3Or (a b d : Me) (es : Mes) : (ev C (.boolop .Or (.cons a (.cons b (.cons d es))))).opd ℓ h = ((((ev C a).v ℓ h).bind fun w h => (truR h w).bind fun k h => ifR k (.ok w h) ((ev C (.boolop .Or (.cons b (.cons d es)))).v ℓ h)) : R W).bind fun w h => .ok (.inr w) h := by rfl
@[simp] theorem v_k_len (e : Me) : (ev C (.blt "len" (.cons e .nil))).v ℓ h = (((ev C e).opd ℓ h).bind fun x h => lenO x h) := by rfl
@[simp] theorem t_k_len (e : Me) : (ev C (.blt "len" (.cons e .nil))).t ℓ h = (((((ev C e).opd ℓ h).bind fun x h => lenO x h) : R W).bind fun w h => truR h w) := by rfl
@[simp] theorem l_k_len (e : Me) : (ev C (.blt "len" (.cons e .nil))).l ℓ h = ((((ev C e).opd ℓ h).bind fun x h => lenO x h) : R W).bind fun w h => seqR h w := by rfl
@[simp] theorem o_k_len (e : Me) : (ev C (.blt "len" (.cons e .nil))).opd ℓ h = ((((ev C e).opd ℓ h).bind fun x h => lenO x h) : R W).bind fun w h => .ok (.inr w) h := by rfl
@[simp] theorem v_k_repr (e : Me) : (ev C (.blt "repr" (.cons e .nil))).v ℓ h = (((ev C e).opd ℓ h).bind fun x h => reprO h x) := by rfl
@[simp] theorem t_k_repr (e : Me) : (ev C (.blt "repr" (.cons e .nil))).t ℓ h = (((((ev C e).opd ℓ h).bind fun x h => reprO h x) : R W).bind fun w h => truR h w) := by rfl
@[simp] theorem l_k_repr (e : Me) : (ev C (.blt "repr" (.cons e .nil))).l ℓ h = ((((ev C e).opd ℓ h).bind fun x h => reprO h x) : R W).bind fun w h => seqR h w := by rfl
@[simp] theorem o_k_repr (e : Me) : (ev C (.blt "repr" (.cons e .nil))).opd ℓ h = ((((ev C e).opd ℓ h).bind fun x h => reprO h x) : R W).bind fun w h => .ok (.inr w) h := by rfl
@[simp] theorem v_k_abs (e : Me) : (ev C (.blt "abs" (.cons e .nil))).v ℓ h = (((ev C e).v ℓ h).bind fun w h => bltV "abs" [w] h) := by rfl
@[simp] theorem t_k_abs (e : Me) : (ev C (.blt "abs" (.cons e .nil))).t ℓ h = (((((ev C e).v ℓ h).bind fun w h => bltV "abs" [w] h) : R W).bind fun w h => truR h w) := by rfl
@[simp] theorem l_k_abs (e : Me) : (ev C (.blt "abs" (.cons e .nil))).l ℓ h = ((((ev C e).v ℓ h).bind fun w h => bltV "abs" [w] h) : R W).bind fun w h => seqR h w := by rfl
@[simp] theorem o_k_abs (e : Me) : (ev C (.blt "abs" (.cons e .nil))).opd ℓ h = ((((ev C e).v ℓ h).bind fun w h => bltV "abs" [w] h) : R W).bind fun w h => .ok (.inr w) h := by rfl
@[simp] theorem v_k_tuple (e : Me) : (ev C (.blt "tuple" (.cons e .nil))).v ℓ h = (((ev C e).l ℓ h).bind fun ws h => .ok (.tup ws) h) := by rfl
@[simp] theorem t_k_tuple (e : Me) : (ev C (.blt "tuple" (.cons e .nil))).t ℓ h = (((((ev C e).l ℓ h).bind fun ws h => .ok (.tup ws) h) : R W).bind fun w h => truR h w) := by rfl
@[simp] theorem l_k_tuple (e : Me) : (ev C (.blt "tuple" (.cons e .nil))).l ℓ h = ((((ev C e).l ℓ h).bind fun ws h => .ok (.tup ws) h) : R W).bind fun w h => seqR h w := by rfl
@[simp] theorem o_k_tuple (e : Me) : (ev C (.blt "tuple" (.cons e .nil))).opd ℓ h = ((((ev C e).l ℓ h).bind fun ws h => .ok (.tup ws) h) : R W).bind fun w h => .ok (.inr w) h := by rfl
@[simp] theorem v_k_all (e : Me) : (ev C (.blt "all" (.cons e .nil))).v ℓ h = (((ev C e).opd ℓ h).bind fun x h => (lsqO h x).bind fun ws h => bltL "all" ws h) := by rfl
@[simp] theorem t_k_all (e : Me) : (ev C (.blt "all" (.cons e .nil))).t ℓ h = (((((ev C e).opd ℓ h).bind fun x h => (lsqO h x).bind fun ws h => bltL "all" ws h) : R W).bind fun w h => truR h w) := by rfl
@[simp] theorem l_k_all (e : Me) : (ev C (.blt "all" (.cons e .nil))).l ℓ h = ((((ev C e).opd ℓ h).bind fun x h => (lsqO h x).bind fun ws h => bltL "all" ws h) : R W).bind fun w h => seqR h w := by rfl
@[simp] theorem o_k_all (e : Me) : (ev C (.blt "all" (.cons e .nil))).opd ℓ h = ((((ev C e).opd ℓ h).bind fun x h => (lsqO h x).bind fun ws h => bltL "all" ws h) : R W).bind fun w h => .ok (.inr w) h := by rfl
@[simp] theorem v_k_any (e : Me) : (ev C (.blt "any" (.cons e .nil))).v ℓ h = (((ev C e).opd ℓ h).bind fun x h => (lsqO h x).bind fun ws h => bltL "any" ws h) := by rfl
@[simp] theorem t_k_any (e : Me) : (ev C (.blt "any" (.cons e .nil))).t ℓ h = (((((ev C e).opd ℓ h).bind fun x h => (lsqO h x).bind fun ws h => bltL "any" ws h) : R W).bind fun w h => truR h w) := by rfl
@[simp] theorem l_k_any (e : Me) : (ev C (.blt "any" (.cons e .nil))).l ℓ h = ((((ev C e).opd ℓ h).bind fun x h => (lsqO h x).bind fun ws h => bltL "any" ws h) : R W).bind fun w h => seqR h w := by rfl
@[simp] theorem o_k_any (e : Me) : (ev C (.blt "any" (.cons e .nil))).opd ℓ h = ((((ev C e).opd ℓ h).bind fun x h => (lsqO h x).bind fun ws h => bltL "any" ws h) : R W).bind fun w h => .ok (.inr w) h := by rfl
@[simp] theorem v_k_sum (e : Me) : (ev C (.blt "sum" (.cons e .nil))).v ℓ h = (((ev C e).opd ℓ h).bind fun x h => (lsqO h x).bind fun ws h => bltL "sum" ws h) := by rfl
@[simp] theorem t_k_sum (e : Me) : (ev C (.blt "sum" (.cons e .nil))).t ℓ h = (((((ev C e).opd ℓ h).bind fun x h => (lsqO h x).bind fun ws h => bltL "sum" ws h) : R W).bind fun w h => truR h w) := by rfl
@[simp] theorem l_k_sum (e : Me) : (ev C (.blt "sum" (.cons e .nil))).l ℓ h = ((((ev C e).opd ℓ h).bind fun x h => (lsqO h x).bind fun ws h => bltL "sum" ws h) : R W).bind fun w h => seqR h w := by rfl
@[simp] theorem o_k_sum (e : Me) : (ev C (.blt "sum" (.cons e .nil))).opd ℓ h = ((((ev C e).opd ℓ h).bind fun x h => (lsqO h x).bind fun ws h => bltL "sum" ws h) : R W).bind fun w h => .ok (.inr w) h := by rfl
@[simp] theorem v_k_list (e : Me) : (ev C (.blt "list" (.cons e .nil))).v ℓ h = (((ev C e).l ℓ h) : R (List W)).bind fun ws h => alloc (.lst ws) h := by rfl
@[simp] theorem t_k_list (e : Me) : (ev C (.blt "list" (.cons e .nil))).t ℓ h = (((ev C e).l ℓ h) : R (List W)).bind fun ws h => .ok (!ws.isEmpty) h := by rfl
@[simp] theorem l_k_list (e : Me) : (ev C (.blt "list" (.cons e .nil))).l ℓ h = ((ev C e).l ℓ h) := by rfl
@[simp] theorem o_k_list (e : Me) : (ev C (.blt "list" (.cons e .nil))).opd ℓ h = (((ev C e).l ℓ h) : R (List W)).bind fun ws h => .ok (.inl ws) h := by rfl
@[simp] theorem v_k_max (a b : Me) : (ev C (.blt "max" (.cons a (.cons b .nil)))).v ℓ h = (((ev C a).v ℓ h).bind fun x h => ((ev C b).v ℓ h).bind fun y h => bltV "max" [x, y] h) := by rfl
@[simp] theorem t_k_max (a b : Me) : (ev C (.blt "max" (.cons a (.cons b .nil)))).t ℓ h = (((((ev C a).v ℓ h).bind fun x h => ((ev C b).v ℓ h).bind fun y h => bltV "max" [x, y] h) : R W).bind fun w h => truR h w) := by rfl
@[simp] theorem l_k_max (a b : Me) : (ev C (.blt "max" (.cons a (.cons b .nil)))).l ℓ h = ((((ev C a).v ℓ h).bind fun x h => ((ev C b).v ℓ h).bind fun y h => bltV "max" [x, y] h) : R W).bind fun w h => seqR h w := by rfl
@[simp] theorem o_k_max (a b : Me) : (ev C (.blt "max" (.cons a (.cons b .nil)))).opd ℓ h = ((((ev C a).v ℓ h).bind fun x h => ((ev C b).v ℓ h).bind fun y h => bltV "max" [x, y] h) : R W).bind fun w h => .ok (.inr w) h := by rfl
@[simp] theorem v_k_min (a b : Me) : (ev C (.blt "min" (.cons a (.cons b .nil)))).v ℓ h = (((ev C a).v ℓ h).bind fun x h => ((ev C b).v ℓ h).bind fun y h => bltV "min" [x, y] h) := by rfl
@[simp] theorem t_k_min (a b : Me) : (ev C (.blt "min" (.cons a (.cons b .nil)))).t ℓ h = (((((ev C a).v ℓ h).bind fun x h => ((ev C b).v ℓ h).bind fun y h => bltV "min" [x, y] h) : R W).bind fun w h => truR h w) := by rfl
@[simp] theorem l_k_min (a b : Me) : (ev C (.blt "min" (.cons a (.cons b .nil)))).l ℓ h = ((((ev C a).v ℓ h).bind fun x h => ((ev C b).v ℓ h).bind fun y h => bltV "min" [x, y] h) : R W).bind fun w h => seqR h w := by rfl
@[simp] theorem o_k_min (a b : Me) : (ev C (.blt "min" (.cons a (.cons b .nil)))).opd ℓ h = ((((ev C a).v ℓ h).bind fun x h => ((ev C b).v ℓ h).bind fun y h => bltV "min" [x, y] h) : R W).bind fun w h => .ok (.inr w) h := by rfl
@[simp] theorem v_m_join (a e : Me) : (ev C (.bm "join" a (.cons e .nil))).v ℓ h = (((ev C a).v ℓ h).bind fun x h => strR x fun a => ((ev C e).l ℓ h).bind fun ws h => joinR a ws h) := by rfl
@[simp] theorem t_m_join (a e : Me) : (ev C (.bm "join" a (.cons e .nil))).t ℓ h = (((((ev C a).v ℓ h).bind fun x h => strR x fun a => ((ev C e).l ℓ h).bind fun ws h => joinR a ws h) : R W).bind fun w h => truR h w) := by rfl
@[simp] theorem l_m_join (a e : Me) : (ev C (.bm "join" a (.cons e .nil))).l ℓ h = ((((ev C a).v ℓ h).bind fun x h => strR x fun a => ((ev C e).l ℓ h).bind fun ws h => joinR a ws h) : R W).bind fun w h => seqR h w := by rfl
@[simp] theorem o_m_join (a e : Me) : (ev C (.bm "join" a (.cons e .nil))).opd ℓ h = ((((ev C a).v ℓ h).bind fun x h => strR x fun a => ((ev C e).l ℓ h).bind fun ws h => joinR a ws h) : R W).bind fun w h => .ok (.inr w) h := by rfl
@[simp] theorem v_m_append (a e : Me) : (ev C (.bm "append" a (.cons e .nil))).v ℓ h = (((ev C a).v ℓ h).bind fun x h => chk (isLst h x) (((ev C e).v ℓ h).bind fun w h => bmV "append" x [w] h)) := by rfl
@[simp] theorem t_m_append (a e : Me) : (ev C (.bm "append" a (.cons e .nil))).t ℓ h = (((((ev C a).v ℓ h).bind fun x h => chk (isLst h x) (((ev C e).v ℓ h).bind fun w h => bmV "append" x [w] h)) : R W).bind fun w h => truR h w) := by rfl
@[simp] theorem l_m_append (a e : Me) : (ev C (.bm "append" a (.cons e .nil))).l ℓ h = ((((ev C a).v ℓ h).bind fun x h => chk (isLst h x) (((ev C e).v ℓ h).bind fun w h => bmV "append" x [w] h)) : R W).bind fun w h => seqR h w := by rfl
@[simp] theorem o_m_append (a e : Me) : (ev C (.bm "append" a (.cons e .nil))).opd ℓ h = ((((ev C a).v ℓ h).bind fun x h => chk (isLst h x) (((ev C e).v ℓ h).bind fun w h => bmV "append" x [w] h)) : R W).bind fun w h => .ok (.inr w) h := by rfl
@[simp] theorem evs_nil : evs C .nil ℓ h = .ok [] h := by rfl
@[simp] theorem evs_cons (e : Me) (es : Mes) : evs C (.cons e es) ℓ h = ((ev C e).v ℓ h).bind fun w h => (evs C es ℓ h).bind fun ws h => .ok (w :: ws) h := by rfl
def keyR {α : Type} (x : W) (f : Key → R α) (_t : Tag f := .mk) : R α := match keyW x with
  | some k => f k
  | none => .stuck
@[simp] theorem keyR_s {α : Type} (x : Str) (f : Key → R α) : keyR (.str x) f = f (.inr x) := rfl
@[simp] theorem keyR_i {α : Type} (x : Int) (f : Key → R α) : keyR (.int x) f = f (.inl x) := rfl
@[simp] theorem evd_nil : evd C .nil ℓ h = .ok [] h := by rfl
@[simp] theorem evd_cons (k v : Me) (r : Mks) : evd C (.cons k v r) ℓ h = ((ev C k).v ℓ h).bind fun x h => ((ev C v).v ℓ h).bind fun y h => keyR x fun k => (evd C r ℓ h).bind fun kvs h => .ok ((k, y) :: kvs) h := by rfl
@[simp] theorem evo_none : evo C .none ℓ h = .ok none h := by rfl
@[simp] theorem evo_some (e : Me) : evo C (.some e) ℓ h = ((ev C e).v ℓ h).bind fun w h => optI w h := by rfl
@[simp] theorem evf_none : evf C .none ℓ h = .ok true h := by rfl
@[simp] theorem evf_some (e : Me) : evf C (.some e) ℓ h = (ev C e).t ℓ h := by rfl
@[simp] theorem evt_name (i : Nat) (w : W) : evt C (.name i) w ℓ h = .ok (ℓ.set i (some w)) h := by rfl
@[simp] theorem evt_tup (ts : Mts) (w : W) : evt C (.tup ts) w ℓ h = (ofO (seqW h w) h).bind fun ws h => evts C ts ws ℓ h := by
  show (match seqW h w with
    | some ws => evts C ts ws ℓ h
    | none => .stuck) = _
  cases seqW h w <;> rfl
@[simp] theorem evt_sub (a i : Me) (w : W) : evt C (.sub a i) w ℓ h = ((ev C a).v ℓ h).bind fun x h => ((ev C i).v ℓ h).bind fun y h => (setSub x y w h).bind fun _ h => .ok ℓ h := by rfl
@[simp] theorem evts_nil : evts C .nil [] ℓ h = .ok ℓ h := by rfl
@[simp] theorem evts_cons (t : Mt) (ts : Mts) (w : W) (ws : List W) : evts C (.cons t ts) (w :: ws) ℓ h = (noX (evt C t w ℓ h)).bind fun ℓ h => evts C ts ws ℓ h := by rfl
@[simp] theorem evi_val (e : Me) : evi C (.val e) ℓ h = ((ev C e).opd ℓ h).bind fun x h => seqO true h x := by rfl
@[simp] theorem evi_range (es : Mes) : evi C (.range es) ℓ h = (evs C es ℓ h).bind fun ws h => rngM ws h := by rfl
@[simp] theorem evi_zip (a b : Me) : evi C (.zip a b) ℓ h = ((ev C a).opd ℓ h).bind fun x h => ((ev C b).opd ℓ h).bind fun y h => chk (tupO x == tupO y) ((seqO false h x).bind fun xs h => (seqO false h y).bind fun ys h => .ok (zipW xs.1 ys.1, xs.2 ++ ys.2) h) := by rfl
@[simp] theorem evi_enum (a : Me) : evi C (.enum a) ℓ h = ((ev C a).opd ℓ h).bind fun x h => chk (!tupO x) ((seqO false h x).bind fun xs h => .ok (enumW 0 xs.1, xs.2) h) := by rfl
end
section
variable (C : Cc) (ℓ : Lo) (h : List O)
@[simp] theorem s_asg_ (t : Mt) (e : Me) : evS C (.asg t e) ℓ h = liftE ℓ ((ev C.cn e).v ℓ h) fun w h => liftE ℓ (noX (evt C.cn t w ℓ h)) fun ℓ h => .ok .nx ℓ h := by rfl
@[simp] theorem s_par_ (i j : Nat) (a b : Me) : evS C (.par i j a b) ℓ h = liftE ℓ ((ev C.cn a).v ℓ h) fun x h => liftE ℓ ((ev C.cn b).v ℓ h) fun y h => .ok .nx ((ℓ.set i (some x)).set j (some y)) h := by rfl
@[simp] theorem s_expr_ (e : Me) : evS C (.expr e) ℓ h = liftE ℓ ((ev C.cn e).v ℓ h) fun _ h => .ok .nx ℓ h := by rfl
@[simp] theorem s_ret_ (e : Me) : evS C (.ret e) ℓ h = liftE ℓ ((ev C.cn e).v ℓ h) fun w h => .ok (.rt w) ℓ h := by rfl
@[simp] theorem s_retN_ : evS C .retN ℓ h = .ok (.rt .non) ℓ h := by rfl
@[simp] theorem s_pass_ : evS C .pass ℓ h = .ok .nx ℓ h := by rfl
@[simp] theorem s_brk_ : evS C .brk ℓ h = .ok .bk ℓ h := by rfl
@[simp] theorem s_cont_ : evS C .cont ℓ h = .ok .ct ℓ h := by rfl
@[simp] theorem s_ife_ (c : Me) (a b : Mss) : evS C (.ife c a b) ℓ h = liftE ℓ ((ev C.cn c).t ℓ h) fun k h => ifS k (evSs C a ℓ h) (evSs C b ℓ h) := by rfl
@[simp] theorem s_for_ (t : Mt) (s : Mi) (b : Mss) : evS C (.for t s b) ℓ h = liftE ℓ (evi C.cn s ℓ h) fun r h => forL (forBody C t b) r.2 r.1 ℓ h := by rfl
@[simp] theorem s_while_ (c : Me) (b : Mss) : evS C (.while c b) ℓ h = whileL (ev C.cn c).t (evSs C b) C.cn.fuel ℓ h := by rfl
@[simp] theorem ss_nil : evSs C .nil ℓ h = .ok .nx ℓ h := by rfl
@[simp] theorem ss_one (s : Ms) : evSs C (.cons s .nil) ℓ h = evS C s ℓ h := by rfl
@[simp] theorem ss_cons (s s2 : Ms) (ss : Mss) : evSs C (.cons s (.cons s2 ss)) ℓ h = seqS (evS C s ℓ h) (evSs C (.cons s2 ss)) := by rfl
end
/-! ### operations on known values -/
section
variable (h : List O)
@[simp] theorem ofO_some {α : Type} (a : α) : ofO (some a) h = .ok a h := rfl
@[simp] theorem getL_0 (a : Option W) (r : Lo) : getL (a :: r) 0 = a := by cases a <;> rfl
@[simp] theorem getL_s (a : Option W) (r : Lo) (i : Nat) : getL (a :: r) (i + 1) = getL r i := rfl
@[simp] theorem b_add (i j : Int) : binW .Add (.int i) (.int j) h = .ok (.int (i + j)) h := rfl
@[simp] theorem b_addS (i j : Str) : binW .Add (.str i) (.str j) h = chk (decide (i.length + j.length ≤ sizeLine)) (.ok (.str (i ++ j)) h) := rfl
@[simp] theorem b_addT (a b : List W) : binW .Add (.tup a) (.tup b) h = chk (decide (a.length + b.length ≤ sizeLine)) (.ok (.tup (a ++ b)) h) := rfl
@[simp] theorem b_sub (i j : Int) : binW .Sub (.int i) (.int j) h = .ok (.int (i - j)) h := rfl
@[simp] theorem b_mul (i j : Int) : binW .Mult (.int i) (.int j) h = chk (mulOk i j) (.ok (.int (i * j)) h) := rfl
@[simp] theorem b_div (i j : Int) : binW .FloorDiv (.int i) (.int j) h = chk (divOk j) (.ok (.int (i.fdiv j)) h) := rfl
@[simp] theorem b_mod (i j : Int) : binW .Mod (.int i) (.int j) h = chk (decide (j ≠ 0)) (.ok (.int (i.fmod j)) h) := rfl
@[simp] theorem b_pow (i j : Int) : binW .Pow (.int i) (.int j) h = chk (powOk i j) (.ok (.int (i ^ j.toNat)) h) := rfl
@[simp] theorem tr_bl (b : Bool) : truR h (.bl b) = .ok b h := rfl
@[simp] theorem tr_non : truR h .non = .ok false h := rfl
@[simp] theorem tr_int (i : Int) : truR h (.int i) = .ok (i != 0) h := rfl
@[simp] theorem sub_tup (ws : List W) (i : Int) : subW (.tup ws) (.int i) h = ofO (atI ws i) h := by
  show (match atI ws i with
      | some w => R.ok w h
      | none => .stuck) = _
  cases atI ws i <;> rfl
@[simp] theorem sub_slst (ws : List W) (i : Int) : subW (.slst ws) (.int i) h = ofO (atI ws i) h := by
  show (match atI ws i with
      | some w => R.ok w h
      | none => .stuck) = _
  cases atI ws i <;> rfl
theorem sub_ref {n : Nat} {ws : List W} (e : h[n]? = some (.lst ws)) (i : Int) : subW (.ref n) (.int i) h = ofO (atI ws i) h := by
  show (match seqW h (.ref n) with
    | some ws => match atI ws i with
      | some w => R.ok w h
      | none => .stuck
    | none => .stuck) = _
  unfold seqW
  dsimp only
  rw [e]
  dsimp only
  cases atI ws i <;> rfl
theorem set_ref {n j : Nat} {ws : List W} {k : Int} {w : W} (e : h[n]? = some (.lst ws)) (hj : ixN ws.length k = some j) : setSub (.ref n) (.int k) w h = .ok () (h.set n (.lst (ws.set j w))) := by
  unfold setSub
  dsimp only
  rw [e]
  dsimp only
  rw [hj]
theorem chk_of {α : Type} {b : Bool} {r : R α} (e : b = true) : chk b r = r := by rw [e]; rfl
@[simp] theorem cw_lt (i j : Int) : cmpW .Lt (.int i) (.int j) h = .ok (.bl (decide (i < j))) h := rfl
@[simp] theorem cw_le (i j : Int) : cmpW .LtE (.int i) (.int j) h = .ok (.bl (decide (i ≤ j))) h := rfl
@[simp] theorem cw_gt (i j : Int) : cmpW .Gt (.int i) (.int j) h = .ok (.bl (decide (j < i))) h := rfl
@[simp] theorem cw_ge (i j : Int) : cmpW .GtE (.int i) (.int j) h = .ok (.bl (decide (j ≤ i))) h := rfl
@[simp] theorem co_lt (i j : Int) : cmpO .Lt (.inr (.int i)) (.inr (.int j)) h = .ok (.bl (decide (i < j))) h := rfl
@[simp] theorem co_le (i j : Int) : cmpO .LtE (.inr (.int i)) (.inr (.int j)) h = .ok (.bl (decide (i ≤ j))) h := rfl
@[simp] theorem co_gt (i j : Int) : cmpO .Gt (.inr (.int i)) (.inr (.int j)) h = .ok (.bl (decide (j < i))) h := rfl
@[simp] theorem co_ge (i j : Int) : cmpO .GtE (.inr (.int i)) (.inr (.int j)) h = .ok (.bl (decide (j ≤ i))) h := rfl
@[simp] theorem co_eq (a b : Opd) : cmpO .Eq a b h = oB (eqO h a b) h := rfl
@[simp] theorem co_ne (a b : Opd) : cmpO .NotEq a b h = oB ((eqO h a b).map (!·)) h := rfl
@[simp] theorem co_in (a b : Opd) : cmpO .In a b h = oB (inO h a b) h := rfl
@[simp] theorem co_nin (a b : Opd) : cmpO .NotIn a b h = oB ((inO h a b).map (!·)) h := rfl
@[simp] theorem oB_some (b : Bool) : oB (some b) h = .ok (.bl b) h := rfl
@[simp] theorem in_str (a b : Str) : inO h (.inr (.str a)) (.inr (.str b)) = some (!(Builtin.Str.occurrences b a 0 b.length 1).isEmpty) := rfl
@[simp] theorem eq_ii (i j : Int) : eqO h (.inr (.int i)) (.inr (.int j)) = some (i == j) := rfl
@[simp] theorem eq_ss (i j : Str) : eqO h (.inr (.str i)) (.inr (.str j)) = some (i == j) := rfl
@[simp] theorem so_l (st : Bool) (ws : List W) : seqO st h (.inl ws) = .ok (ws, []) h := rfl
@[simp] theorem so_t (st : Bool) (ws : List W) : seqO st h (.inr (.tup ws)) = .ok (ws, []) h := rfl
@[simp] theorem so_sl (st : Bool) (ws : List W) : seqO st h (.inr (.slst ws)) = .ok (ws, []) h := rfl
@[simp] theorem so_s (x : Str) : seqO true h (.inr (.str x)) = .ok (chars x, []) h := rfl
@[simp] theorem lsq_l (ws : List W) : lsqO h (.inl ws) = .ok ws h := rfl
@[simp] theorem lsq_sl (ws : List W) : lsqO h (.inr (.slst ws)) = .ok ws h := rfl
@[simp] theorem rng_1 (j : Int) : rngM [.int j] h = chk (rngOk j) (.ok (rngL 0 j.toNat, []) h) := rfl
@[simp] theorem rng_2 (i j : Int) : rngM [.int i, .int j] h = chk (rngOk i && rngOk j) (.ok (rngL i (j - i).toNat, []) h) := rfl
@[simp] theorem len_s (z : Str) : lenW (.str z) h = chk (decide (z.length ≤ sizeLine)) (.ok (.int z.length) h) := rfl
@[simp] theorem len_t (ws : List W) : lenW (.tup ws) h = .ok (.int ws.length) h := rfl
@[simp] theorem len_sl (ws : List W) : lenW (.slst ws) h = .ok (.int ws.length) h := rfl
@[simp] theorem alloc_ (o : O) : alloc o h = .ok (.ref h.length) (h ++ [o]) := rfl
@[simp] theorem mx (i j : Int) : bltV "max" [.int i, .int j] h = .ok (.int (if j > i then j else i)) h := by rfl
@[simp] theorem mn (i j : Int) : bltV "min" [.int i, .int j] h = .ok (.int (if j < i then j else i)) h := by rfl
@[simp] theorem ab (i : Int) : bltV "abs" [.int i] h = .ok (.int (if i < 0 then -i else i)) h := by rfl
@[simp] theorem for_nil (f : W → Lo → List O → RS) (ℓ : Lo) : forL f [] [] ℓ h = .ok .nx ℓ h := rfl
theorem for_cons (f : W → Lo → List O → RS) (w : W) (ws : List W) (ℓ : Lo) : forL f [] (w :: ws) ℓ h = turnS (f w ℓ h) (forL f [] ws) := rfl
@[simp] theorem lc_nil (f : W → List O → R (Option W)) (n : Nat) : lcLoop f [] n [] h = .ok [] h := rfl
end
end MP

set_option maxRecDepth 100000
set_option maxHeartbeats 4000000
namespace L02
open PySem PySem.Spec PyProof.Rows MP
def top (i : Nat) : Stmt := PySem.Challenge.pw_seenchoices_k02_words_and_names.main.body.getD i (.Pass ⟨0, 0, 0, 0⟩)
def d_is_whole : FD := ⟨["value"], ["value"],
  (.cons (.ret (.boolop .And (.cons (.isi (.var 0) ["int"]) (.cons (.not (.isi (.var 0) ["bool"])) .nil)))) .nil)⟩
def d_is_integer : FD := ⟨["value", "low", "high"], ["value", "low", "high"],
  (.cons (.ret (.boolop .And (.cons (.call "is_whole" (.cons (.var 0) .nil)) (.cons (.chain .LtE .LtE (.var 1) (.var 0) (.var 2)) .nil)))) .nil)⟩
def d_is_spelled : FD := ⟨["value", "low", "high"], ["value", "low", "high", ".0", "letter"],
  (.cons (.ret (.boolop .And (.cons (.isi (.var 0) ["str"]) (.cons (.chain .LtE .LtE (.var 1) (.blt "len" (.cons (.var 0) .nil)) (.var 2)) (.cons (.blt "all" (.cons (.lcomp (.cmp .In (.var 4) (.glob "LETTERS")) (.name 4) (.val (.var 0)) .none [3, 4]) .nil)) .nil))))) .nil)⟩
def d_is_word : FD := ⟨["value"], ["value"],
  (.cons (.ret (.call "is_spelled" (.cons (.var 0) (.cons (.int 0) (.cons (.glob "LONGEST_WORD") .nil))))) .nil)⟩
def d_is_name : FD := ⟨["value"], ["value"],
  (.cons (.ret (.call "is_spelled" (.cons (.var 0) (.cons (.int 1) (.cons (.glob "LONGEST_NAME") .nil))))) .nil)⟩
def d_is_letter : FD := ⟨["value"], ["value"],
  (.cons (.ret (.call "is_spelled" (.cons (.var 0) (.cons (.int 1) (.cons (.int 1) .nil))))) .nil)⟩
def d__law_cell : FD := ⟨["_law_script", "_law_k"], ["_law_script", "_law_k"],
  (.cons (.ife (.cmp .Lt (.var 1) (.blt "len" (.cons (.var 0) .nil))) (.cons (.ret (.sub (.var 0) (.var 1))) .nil) .nil) (.cons (.ret (.bin .Add (.bin .Mult (.int 15489773) (.var 1)) (.int 1783))) .nil))⟩
def d__law_box : FD := ⟨["_law_cell_here"], ["_law_cell_here"],
  (.cons (.ret (.lst (.cons (.blt "max" (.cons (.int 0) (.cons (.bin .Sub (.var 0) (.bin .Pow (.int 10) (.int 18))) .nil))) (.cons (.bin .Mod (.var 0) (.int 2147483629)) (.cons (.int 0) .nil))))) .nil)⟩
def d__law_take : FD := ⟨["_law_box_here", "_law_many"], ["_law_box_here", "_law_many", "_law_digit", "_law_mixed"],
  (.cons (.ife (.cmp .Gt (.sub (.var 0) (.int 0)) (.int 0)) (.cons (.asg (.name 2) (.bin .Mod (.sub (.var 0) (.int 0)) (.var 1))) (.cons (.asg (.sub (.var 0) (.int 0)) (.bin .FloorDiv (.sub (.var 0) (.int 0)) (.var 1))) (.cons (.ret (.var 2)) .nil))) .nil) (.cons (.asg (.sub (.var 0) (.int 2)) (.bin .Add (.sub (.var 0) (.int 2)) (.int 1))) (.cons (.asg (.name 3) (.bin .Mod (.bin .Pow (.bin .Add (.bin .Add (.sub (.var 0) (.int 1)) (.bin .Mult (.int 15489773) (.sub (.var 0) (.int 2)))) (.int 1783)) (.int 5)) (.int 2147483647))) (.cons (.asg (.name 3) (.bin .Mod (.bin .Pow (.bin .Add (.var 3) (.bin .Mult (.int 104711) (.sub (.var 0) (.int 2)))) (.int 3)) (.int 2147483587))) (.cons (.ret (.bin .Mod (.bin .FloorDiv (.var 3) (.int 32)) (.var 1))) .nil)))))⟩
def d__law_line : FD := ⟨["_law_box_here"], ["_law_box_here", "_law_signs", ".0", "_law_k"],
  (.cons (.asg (.name 1) (.bin .Add (.str "abcdefghijklmnopqrstuvwxyz") (.str "A09 -_`{~\n"))) (.cons (.ret (.bm "join" (.str "") (.cons (.lcomp (.sub (.var 1) (.call "_law_take" (.cons (.var 0) (.cons (.int 36) .nil)))) (.name 3) (.range (.cons (.call "_law_take" (.cons (.var 0) (.cons (.int 11) .nil))) .nil)) .none [2, 3]) .nil))) .nil))⟩
def d__law_are_small : FD := ⟨["_law_line_here"], ["_law_line_here", ".0", "_law_sign"],
  (.cons (.ret (.cmp .Eq (.lcomp (.var 2) (.name 2) (.val (.var 0)) (.some (.cmp .NotIn (.var 2) (.str "abcdefghijklmnopqrstuvwxyz"))) [1, 2]) (.lst .nil))) .nil)⟩
def d__law_right : FD := ⟨["_law_thing"], ["_law_thing", "_law_small", "_law_many", "_law_due"],
  (.cons (.asg (.name 1) (.boolop .And (.cons (.isi (.var 0) ["str"]) (.cons (.call "_law_are_small" (.cons (.var 0) .nil)) .nil)))) (.cons (.asg (.name 2) (.ife (.isi (.var 0) ["str"]) (.blt "len" (.cons (.var 0) .nil)) (.int 99))) (.cons (.asg (.name 3) (.lst (.cons (.boolop .And (.cons (.var 1) (.cons (.cmp .LtE (.var 2) (.int 6)) .nil))) (.cons (.boolop .And (.cons (.var 1) (.cons (.chain .LtE .LtE (.int 1) (.var 2) (.int 8)) .nil))) (.cons (.boolop .And (.cons (.var 1) (.cons (.cmp .Eq (.var 2) (.int 1)) .nil))) .nil))))) (.cons (.ret (.cmp .Eq (.blt "repr" (.cons (.lst (.cons (.call "is_word" (.cons (.var 0) .nil)) (.cons (.call "is_name" (.cons (.var 0) .nil)) (.cons (.call "is_letter" (.cons (.var 0) .nil)) .nil)))) .nil)) (.blt "repr" (.cons (.var 3) .nil)))) .nil))))⟩
def d__law_integers_right : FD := ⟨["_law_box_here"], ["_law_box_here", "_law_low", "_law_high", "_law_number", ".0", "_law_thing"],
  (.cons (.asg (.name 1) (.bin .Sub (.call "_law_take" (.cons (.var 0) (.cons (.sub (.lst (.cons (.int 10) (.cons (.int 100) (.cons (.bin .Pow (.int 10) (.int 29)) .nil)))) (.call "_law_take" (.cons (.var 0) (.cons (.int 3) .nil)))) .nil))) (.int 5))) (.cons (.asg (.name 2) (.bin .Sub (.bin .Add (.var 1) (.call "_law_take" (.cons (.var 0) (.cons (.int 6) .nil)))) (.int 1))) (.cons (.for (.name 3) (.val (.lst (.cons (.bin .Sub (.var 1) (.int 1)) (.cons (.var 1) (.cons (.bin .Add (.var 1) (.int 1)) (.cons (.var 2) (.cons (.bin .Add (.var 2) (.int 1)) .nil))))))) (.cons (.ife (.cmp .NotEq (.blt "repr" (.cons (.call "is_integer" (.cons (.var 3) (.cons (.var 1) (.cons (.var 2) .nil)))) .nil)) (.blt "repr" (.cons (.boolop .And (.cons (.cmp .LtE (.var 1) (.var 3)) (.cons (.cmp .LtE (.var 3) (.var 2)) .nil))) .nil))) (.cons (.ret (.bl false)) .nil) .nil) .nil)) (.cons (.ret (.cmp .Eq (.lcomp (.call "is_integer" (.cons (.var 5) (.cons (.int 0) (.cons (.int 9) .nil)))) (.name 5) (.val (.lst (.cons (.bl true) (.cons (.bl false) (.cons .non (.cons (.str "1") (.cons (.lst (.cons (.int 1) .nil)) (.cons (.tup (.cons (.int 1) .nil)) (.cons (.dct .nil) .nil))))))))) .none [4, 5]) (.lrep (.lst (.cons (.bl false) .nil)) (.int 7)))) .nil))))⟩
def d_law : FD := ⟨["_law_script"], ["_law_script", "_law_k", "_law_box_here", "_law_line_here", "_law_small", "_law_thing", ".0", "_law_sign"],
  (.cons (.for (.name 1) (.range (.cons (.blt "max" (.cons (.int 2) (.cons (.blt "min" (.cons (.int 8) (.cons (.blt "len" (.cons (.var 0) .nil)) .nil))) .nil))) .nil)) (.cons (.asg (.name 2) (.call "_law_box" (.cons (.call "_law_cell" (.cons (.var 0) (.cons (.var 1) .nil))) .nil))) (.cons (.asg (.name 3) (.call "_law_line" (.cons (.var 2) .nil))) (.cons (.asg (.name 4) (.bm "join" (.str "") (.cons (.lcomp (.var 7) (.name 7) (.val (.var 3)) (.some (.call "_law_are_small" (.cons (.var 7) .nil))) [6, 7]) .nil))) (.cons (.for (.name 5) (.val (.lst (.cons (.var 3) (.cons (.var 4) (.cons (.slice (.var 4) .none (.some (.int 1))) (.cons (.slice (.var 4) .none (.some (.int 6))) (.cons (.bin .Add (.slice (.var 4) .none (.some (.int 6))) (.str "a")) (.cons (.bin .Add (.slice (.var 4) .none (.some (.int 1))) (.var 4)) (.cons (.slice (.var 3) .none (.some (.int 1))) (.cons (.str "") (.cons (.str "abcdefgh") .nil))))))))))) (.cons (.ife (.not (.call "_law_right" (.cons (.var 5) .nil))) (.cons (.ret (.bl false)) .nil) .nil) .nil)) (.cons (.ife (.not (.call "_law_integers_right" (.cons (.var 2) .nil))) (.cons (.ret (.bl false)) .nil) .nil) .nil)))))) (.cons (.ret (.cmp .Eq (.lcomp (.call "_law_right" (.cons (.var 5) .nil)) (.name 5) (.val (.lst (.cons .non (.cons (.int 3) (.cons (.bl true) (.cons (.lst .nil) (.cons (.lst (.cons (.str "a") .nil)) (.cons (.tup (.cons (.str "a") .nil)) (.cons (.dct (.cons (.str "a") (.int 1) .nil)) (.cons (.str "abcdefghi") .nil)))))))))) .none [6, 5]) (.lrep (.lst (.cons (.bl true) .nil)) (.int 8)))) .nil))⟩
def fs : List Str := ["is_whole", "is_integer", "is_spelled", "is_word", "is_name", "is_letter", "_law_cell", "_law_box", "_law_take", "_law_line", "_law_are_small", "_law_right", "_law_integers_right", "law"]
def D : List (Str × FD) := [("is_whole", d_is_whole), ("is_integer", d_is_integer), ("is_spelled", d_is_spelled), ("is_word", d_is_word), ("is_name", d_is_name), ("is_letter", d_is_letter), ("_law_cell", d__law_cell), ("_law_box", d__law_box), ("_law_take", d__law_take), ("_law_line", d__law_line), ("_law_are_small", d__law_are_small), ("_law_right", d__law_right), ("_law_integers_right", d__law_integers_right), ("law", d_law)]
theorem c_is_whole : chkD fs (top 4) d_is_whole = true := by decide +kernel
theorem c_is_integer : chkD fs (top 5) d_is_integer = true := by decide +kernel
theorem c_is_spelled : chkD fs (top 6) d_is_spelled = true := by decide +kernel
theorem c_is_word : chkD fs (top 7) d_is_word = true := by decide +kernel
theorem c_is_name : chkD fs (top 8) d_is_name = true := by decide +kernel
theorem c_is_letter : chkD fs (top 9) d_is_letter = true := by decide +kernel
theorem c__law_cell : chkD fs (top 11) d__law_cell = true := by decide +kernel
theorem c__law_box : chkD fs (top 12) d__law_box = true := by decide +kernel
theorem c__law_take : chkD fs (top 13) d__law_take = true := by decide +kernel
theorem c__law_line : chkD fs (top 14) d__law_line = true := by decide +kernel
theorem c__law_are_small : chkD fs (top 15) d__law_are_small = true := by decide +kernel
theorem c__law_right : chkD fs (top 16) d__law_right = true := by decide +kernel
theorem c__law_integers_right : chkD fs (top 17) d__law_integers_right = true := by decide +kernel
theorem c_law : chkD fs (top 18) d_law = true := by decide +kernel
theorem fs_D : D.map (·.1) = fs := rfl
def gl : List (Str × W) := [("LETTERS", .str "abcdefghijklmnopqrstuvwxyz"), ("LONGEST_WORD", .int 6), ("LONGEST_NAME", .int 8)]
def C (k : Nat) : Cc := mkC D (fun x => gl.lookup x) (fun _ _ => false) 1000 k
/-! ### what the top has left -/
theorem all_mk {P : Program} {w : World} {K : PySem.W.Frag} {h : Heap} {mg : Str → Option Value} {fa : Addr} (X : K.In h) (N : h.Ns mainGlobals mg) (hfa : mg "law" = some (.ref fa))
    {f0 : Addr} {od0 an0 : Option Addr} {sl0 : Array (Option Value)} {oc0 kV0 dc0 pm0 cd0 ct0 : Value}
    {f1 : Addr} {od1 an1 : Option Addr} {sl1 : Array (Option Value)} {oc1 kV1 dc1 pm1 cd1 ct1 : Value}
    {f2 : Addr} {od2 an2 : Option Addr} {sl2 : Array (Option Value)} {oc2 kV2 dc2 pm2 cd2 ct2 : Value}
    {f3 : Addr} {od3 an3 : Option Addr} {sl3 : Array (Option Value)} {oc3 kV3 dc3 pm3 cd3 ct3 : Value}
    {f4 : Addr} {od4 an4 : Option Addr} {sl4 : Array (Option Value)} {oc4 kV4 dc4 pm4 cd4 ct4 : Value}
    {f5 : Addr} {od5 an5 : Option Addr} {sl5 : Array (Option Value)} {oc5 kV5 dc5 pm5 cd5 ct5 : Value}
    {f6 : Addr} {od6 an6 : Option Addr} {sl6 : Array (Option Value)} {oc6 kV6 dc6 pm6 cd6 ct6 : Value}
    {f7 : Addr} {od7 an7 : Option Addr} {sl7 : Array (Option Value)} {oc7 kV7 dc7 pm7 cd7 ct7 : Value}
    {f8 : Addr} {od8 an8 : Option Addr} {sl8 : Array (Option Value)} {oc8 kV8 dc8 pm8 cd8 ct8 : Value}
    {f9 : Addr} {od9 an9 : Option Addr} {sl9 : Array (Option Value)} {oc9 kV9 dc9 pm9 cd9 ct9 : Value}
    {f10 : Addr} {od10 an10 : Option Addr} {sl10 : Array (Option Value)} {oc10 kV10 dc10 pm10 cd10 ct10 : Value}
    {f11 : Addr} {od11 an11 : Option Addr} {sl11 : Array (Option Value)} {oc11 kV11 dc11 pm11 cd11 ct11 : Value}
    {f12 : Addr} {od12 an12 : Option Addr} {sl12 : Array (Option Value)} {oc12 kV12 dc12 pm12 cd12 ct12 : Value}
    {f13 : Addr} {od13 an13 : Option Addr} {sl13 : Array (Option Value)} {oc13 kV13 dc13 pm13 cd13 ct13 : Value}
    {t0 : Tok}
    {t1 : Tok}
    {t2 : Tok}
    (a0 : PySem.W.nsIn K mainGlobals "is_whole" = some (some (.ref f0))) (l0 : K.lookup f0 = some ⟨oc0, od0, .func (PySem.W.fnOf "is_whole" "is_whole" (L2.defArgs (top 4)) (L2.defBody (top 4)) (L2.defScope (top 4)) .none kV0 dc0 pm0 an0 cd0 ct0), sl0⟩) (c0 : PySem.W.codeIn K cd0 "is_whole" = true) (k0 : PySem.W.keepIn K (.ref f0) = true)
    (a1 : PySem.W.nsIn K mainGlobals "is_integer" = some (some (.ref f1))) (l1 : K.lookup f1 = some ⟨oc1, od1, .func (PySem.W.fnOf "is_integer" "is_integer" (L2.defArgs (top 5)) (L2.defBody (top 5)) (L2.defScope (top 5)) .none kV1 dc1 pm1 an1 cd1 ct1), sl1⟩) (c1 : PySem.W.codeIn K cd1 "is_integer" = true) (k1 : PySem.W.keepIn K (.ref f1) = true)
    (a2 : PySem.W.nsIn K mainGlobals "is_spelled" = some (some (.ref f2))) (l2 : K.lookup f2 = some ⟨oc2, od2, .func (PySem.W.fnOf "is_spelled" "is_spelled" (L2.defArgs (top 6)) (L2.defBody (top 6)) (L2.defScope (top 6)) .none kV2 dc2 pm2 an2 cd2 ct2), sl2⟩) (c2 : PySem.W.codeIn K cd2 "is_spelled" = true) (k2 : PySem.W.keepIn K (.ref f2) = true)
    (a3 : PySem.W.nsIn K mainGlobals "is_word" = some (some (.ref f3))) (l3 : K.lookup f3 = some ⟨oc3, od3, .func (PySem.W.fnOf "is_word" "is_word" (L2.defArgs (top 7)) (L2.defBody (top 7)) (L2.defScope (top 7)) .none kV3 dc3 pm3 an3 cd3 ct3), sl3⟩) (c3 : PySem.W.codeIn K cd3 "is_word" = true) (k3 : PySem.W.keepIn K (.ref f3) = true)
    (a4 : PySem.W.nsIn K mainGlobals "is_name" = some (some (.ref f4))) (l4 : K.lookup f4 = some ⟨oc4, od4, .func (PySem.W.fnOf "is_name" "is_name" (L2.defArgs (top 8)) (L2.defBody (top 8)) (L2.defScope (top 8)) .none kV4 dc4 pm4 an4 cd4 ct4), sl4⟩) (c4 : PySem.W.codeIn K cd4 "is_name" = true) (k4 : PySem.W.keepIn K (.ref f4) = true)
    (a5 : PySem.W.nsIn K mainGlobals "is_letter" = some (some (.ref f5))) (l5 : K.lookup f5 = some ⟨oc5, od5, .func (PySem.W.fnOf "is_letter" "is_letter" (L2.defArgs (top 9)) (L2.defBody (top 9)) (L2.defScope (top 9)) .none kV5 dc5 pm5 an5 cd5 ct5), sl5⟩) (c5 : PySem.W.codeIn K cd5 "is_letter" = true) (k5 : PySem.W.keepIn K (.ref f5) = true)
    (a6 : PySem.W.nsIn K mainGlobals "_law_cell" = some (some (.ref f6))) (l6 : K.lookup f6 = some ⟨oc6, od6, .func (PySem.W.fnOf "_law_cell" "_law_cell" (L2.defArgs (top 11)) (L2.defBody (top 11)) (L2.defScope (top 11)) .none kV6 dc6 pm6 an6 cd6 ct6), sl6⟩) (c6 : PySem.W.codeIn K cd6 "_law_cell" = true) (k6 : PySem.W.keepIn K (.ref f6) = true)
    (a7 : PySem.W.nsIn K mainGlobals "_law_box" = some (some (.ref f7))) (l7 : K.lookup f7 = some ⟨oc7, od7, .func (PySem.W.fnOf "_law_box" "_law_box" (L2.defArgs (top 12)) (L2.defBody (top 12)) (L2.defScope (top 12)) .none kV7 dc7 pm7 an7 cd7 ct7), sl7⟩) (c7 : PySem.W.codeIn K cd7 "_law_box" = true) (k7 : PySem.W.keepIn K (.ref f7) = true)
    (a8 : PySem.W.nsIn K mainGlobals "_law_take" = some (some (.ref f8))) (l8 : K.lookup f8 = some ⟨oc8, od8, .func (PySem.W.fnOf "_law_take" "_law_take" (L2.defArgs (top 13)) (L2.defBody (top 13)) (L2.defScope (top 13)) .none kV8 dc8 pm8 an8 cd8 ct8), sl8⟩) (c8 : PySem.W.codeIn K cd8 "_law_take" = true) (k8 : PySem.W.keepIn K (.ref f8) = true)
    (a9 : PySem.W.nsIn K mainGlobals "_law_line" = some (some (.ref f9))) (l9 : K.lookup f9 = some ⟨oc9, od9, .func (PySem.W.fnOf "_law_line" "_law_line" (L2.defArgs (top 14)) (L2.defBody (top 14)) (L2.defScope (top 14)) .none kV9 dc9 pm9 an9 cd9 ct9), sl9⟩) (c9 : PySem.W.codeIn K cd9 "_law_line" = true) (k9 : PySem.W.keepIn K (.ref f9) = true)
    (a10 : PySem.W.nsIn K mainGlobals "_law_are_small" = some (some (.ref f10))) (l10 : K.lookup f10 = some ⟨oc10, od10, .func (PySem.W.fnOf "_law_are_small" "_law_are_small" (L2.defArgs (top 15)) (L2.defBody (top 15)) (L2.defScope (top 15)) .none kV10 dc10 pm10 an10 cd10 ct10), sl10⟩) (c10 : PySem.W.codeIn K cd10 "_law_are_small" = true) (k10 : PySem.W.keepIn K (.ref f10) = true)
    (a11 : PySem.W.nsIn K mainGlobals "_law_right" = some (some (.ref f11))) (l11 : K.lookup f11 = some ⟨oc11, od11, .func (PySem.W.fnOf "_law_right" "_law_right" (L2.defArgs (top 16)) (L2.defBody (top 16)) (L2.defScope (top 16)) .none kV11 dc11 pm11 an11 cd11 ct11), sl11⟩) (c11 : PySem.W.codeIn K cd11 "_law_right" = true) (k11 : PySem.W.keepIn K (.ref f11) = true)
    (a12 : PySem.W.nsIn K mainGlobals "_law_integers_right" = some (some (.ref f12))) (l12 : K.lookup f12 = some ⟨oc12, od12, .func (PySem.W.fnOf "_law_integers_right" "_law_integers_right" (L2.defArgs (top 17)) (L2.defBody (top 17)) (L2.defScope (top 17)) .none kV12 dc12 pm12 an12 cd12 ct12), sl12⟩) (c12 : PySem.W.codeIn K cd12 "_law_integers_right" = true) (k12 : PySem.W.keepIn K (.ref f12) = true)
    (a13 : PySem.W.nsIn K mainGlobals "law" = some (some (.ref f13))) (l13 : K.lookup f13 = some ⟨oc13, od13, .func (PySem.W.fnOf "law" "law" (L2.defArgs (top 18)) (L2.defBody (top 18)) (L2.defScope (top 18)) .none kV13 dc13 pm13 an13 cd13 ct13), sl13⟩) (c13 : PySem.W.codeIn K cd13 "law" = true) (k13 : PySem.W.keepIn K (.ref f13) = true)
    (gl0x : PySem.W.nsIn K mainGlobals "LETTERS" = some (some (.str "abcdefghijklmnopqrstuvwxyz" t0)))
    (gl1x : PySem.W.nsIn K mainGlobals "LONGEST_WORD" = some (some (.int (6) t1)))
    (gl2x : PySem.W.nsIn K mainGlobals "LONGEST_NAME" = some (some (.int (8) t2)))
    (hb : ∀ x ∈ bltNames, PySem.W.nsIn K mainGlobals x = some none) :
    ∃ fd : FuncData, (∀ (s : Shared) (v : Value), BindsTo s fd ⟨[v], []⟩ [("_law_script", v)]) ∧ ∀ base : Heap, K.In base → base.Ns mainGlobals mg → ∃ G : Pg, G.P = P ∧ G.w = w ∧ G.K = K ∧ G.mg = mg ∧ G.base = base ∧ G.i0 = [] ∧ FnG G 8 fa fd ["_law_script"] (spI G (runF (C 7) d_law) 1) := by
  have e := hfa.symm.trans (PySem.W.mg_of X N a13)
  cases e
  refine ⟨PySem.W.fnOf "law" "law" (L2.defArgs (top 18)) (L2.defBody (top 18)) (L2.defScope (top 18)) .none kV13 dc13 pm13 an13 cd13 ct13, fun s v => .of_eq rfl, fun base _ _ => ⟨⟨P, w, K, mg, base, fun _ => none, []⟩, rfl, rfl, rfl, rfl, rfl, rfl, ?_⟩⟩
  refine law_fn (h := h) (st := top 18) (D := D) (gl := gl) (d := d_law) (k := 7) X N hb (fun p hp => ?_) (fun p hp => ?_) l13 c13 k13 c_law
  · simp only [gl, List.mem_cons, List.not_mem_nil, or_false] at hp
    rcases hp with rfl | rfl | rfl
    · exact gl_str (h := h) X N gl0x
    · exact gl_int (h := h) X N gl1x
    · exact gl_int (h := h) X N gl2x
  · simp only [D, List.mem_cons, List.not_mem_nil, or_false] at hp
    rcases hp with rfl | rfl | rfl | rfl | rfl | rfl | rfl | rfl | rfl | rfl | rfl | rfl | rfl | rfl
    · exact defOk_of (h := h) (st := top 4) X N a0 l0 c0 k0 (fun _ _ _ _ _ _ us hl => match us, hl with | [_], _ => rfl) c_is_whole
    · exact defOk_of (h := h) (st := top 5) X N a1 l1 c1 k1 (fun _ _ _ _ _ _ us hl => match us, hl with | [_, _, _], _ => rfl) c_is_integer
    · exact defOk_of (h := h) (st := top 6) X N a2 l2 c2 k2 (fun _ _ _ _ _ _ us hl => match us, hl with | [_, _, _], _ => rfl) c_is_spelled
    · exact defOk_of (h := h) (st := top 7) X N a3 l3 c3 k3 (fun _ _ _ _ _ _ us hl => match us, hl with | [_], _ => rfl) c_is_word
    · exact defOk_of (h := h) (st := top 8) X N a4 l4 c4 k4 (fun _ _ _ _ _ _ us hl => match us, hl with | [_], _ => rfl) c_is_name
    · exact defOk_of (h := h) (st := top 9) X N a5 l5 c5 k5 (fun _ _ _ _ _ _ us hl => match us, hl with | [_], _ => rfl) c_is_letter
    · exact defOk_of (h := h) (st := top 11) X N a6 l6 c6 k6 (fun _ _ _ _ _ _ us hl => match us, hl with | [_, _], _ => rfl) c__law_cell
    · exact defOk_of (h := h) (st := top 12) X N a7 l7 c7 k7 (fun _ _ _ _ _ _ us hl => match us, hl with | [_], _ => rfl) c__law_box
    · exact defOk_of (h := h) (st := top 13) X N a8 l8 c8 k8 (fun _ _ _ _ _ _ us hl => match us, hl with | [_, _], _ => rfl) c__law_take
    · exact defOk_of (h := h) (st := top 14) X N a9 l9 c9 k9 (fun _ _ _ _ _ _ us hl => match us, hl with | [_], _ => rfl) c__law_line
    · exact defOk_of (h := h) (st := top 15) X N a10 l10 c10 k10 (fun _ _ _ _ _ _ us hl => match us, hl with | [_], _ => rfl) c__law_are_small
    · exact defOk_of (h := h) (st := top 16) X N a11 l11 c11 k11 (fun _ _ _ _ _ _ us hl => match us, hl with | [_], _ => rfl) c__law_right
    · exact defOk_of (h := h) (st := top 17) X N a12 l12 c12 k12 (fun _ _ _ _ _ _ us hl => match us, hl with | [_], _ => rfl) c__law_integers_right
    · exact defOk_of (h := h) (st := top 18) X N a13 l13 c13 k13 (fun _ _ _ _ _ _ us hl => match us, hl with | [_], _ => rfl) c_law
end L02
set_option maxRecDepth 100000
set_option maxHeartbeats 4000000
namespace L02
open PySem PySem.Spec PyProof.Rows MP
/-! ### the law in plain words -/
theorem whole_ok (C : Cc) (w : W) (h : List O) (t : String) (hw : wType w h = some t) : runF C d_is_whole [w] h = .ok (.bl (isiB t "int" && !isiB t "bool")) h := by
  simp -dsimp [runF, d_is_whole, startL, isiW, hw]
  cases isiB t "int" <;> simp [isiW, hw]
theorem pow_ok {i j : Int} (h1 : 0 ≤ j) (h2 : j ≤ 1000000) (h3 : i.natAbs < 2 ^ 64) : powOk i j = true := decide_eq_true ⟨h1, h2, h3⟩
theorem mul_small {i j : Int} (h1 : -(2 ^ 64) < i) (h2 : i < 2 ^ 64) : mulOk i j = true := by
  unfold mulOk
  rw [decide_eq_true (p := -(2 ^ 64) < i ∧ i < 2 ^ 64) ⟨h1, h2⟩]
  rfl
theorem take_ok (C : Cc) (h : List O) (b : Nat) (x y z many : Int) (hb : h[b]? = some (.lst [.int x, .int y, .int z])) (hm : divOk many = true) (hm0 : 0 < many) (hx : 0 ≤ x) (hy : 0 ≤ y) (hy2 : y < 2147483629) (hz : 0 ≤ z) (hz2 : z < 1000) :
    ∃ r x' z', runF C d__law_take [.ref b, .int many] h = .ok (.int r) (h.set b (.lst [.int x', .int y, .int z'])) ∧ 0 ≤ r ∧ r < many ∧ 0 ≤ x' ∧ z ≤ z' ∧ z' ≤ z + 1 := by
  have hlt : b < h.length := (List.getElem?_eq_some_iff.mp hb).1
  have n0 : many ≠ 0 := by omega
  by_cases h0 : 0 < x
  · refine ⟨x.fmod many, x.fdiv many, z, ?_, Int.fmod_nonneg_of_pos _ hm0, Int.fmod_lt_of_pos _ hm0, Int.fdiv_nonneg hx (by omega), by omega, by omega⟩
    simp -dsimp [runF, d__law_take, startL, sub_ref h hb, L2.atI, L2.ixN, h0, set_ref h hb, n0, chk_of hm]
  · have hb2 : (h.set b (.lst [.int x, .int y, .int (z + 1)]))[b]? = some (.lst [.int x, .int y, .int (z + 1)]) := by rw [List.getElem?_set_self hlt]
    have p1 : powOk (y + 15489773 * (z + 1) + 1783) 5 = true := pow_ok (by omega) (by omega) (by omega)
    have m1 := Int.fmod_nonneg_of_pos ((y + 15489773 * (z + 1) + 1783) ^ 5) (b := 2147483647) (by omega)
    have m2 := Int.fmod_lt_of_pos ((y + 15489773 * (z + 1) + 1783) ^ 5) (b := 2147483647) (by omega)
    have p2 : powOk ((((y + 15489773 * (z + 1) + 1783) ^ 5).fmod 2147483647) + 104711 * (z + 1)) 3 = true := pow_ok (by omega) (by omega) (by omega)
    have q1 : mulOk 15489773 (z + 1) = true := mul_small (by omega) (by omega)
    have q2 : mulOk 104711 (z + 1) = true := mul_small (by omega) (by omega)
    have q3 : divOk 32 = true := by decide
    refine ⟨(((((((y + 15489773 * (z + 1) + 1783) ^ 5).fmod 2147483647) + 104711 * (z + 1)) ^ 3).fmod 2147483587).fdiv 32).fmod many, x, z + 1, ?_, Int.fmod_nonneg_of_pos _ hm0, Int.fmod_lt_of_pos _ hm0, hx, by omega, by omega⟩
    simp -dsimp [runF, d__law_take, startL, sub_ref h hb, sub_ref _ hb2, L2.atI, L2.ixN, h0, set_ref h hb, n0, chk_of p1, chk_of p2, chk_of q1, chk_of q2, chk_of q3]
theorem cell_ok (C : Cc) (h : List O) (ns : List Int) (k : Nat) : ∃ c, runF C d__law_cell [.slst (ns.map W.int), .int k] h = .ok (.int c) h := by
  by_cases hk : k < ns.length
  · refine ⟨ns[k], ?_⟩
    have e : (ns.map W.int)[k]? = some (.int ns[k]) := by simp [hk]
    have h1 : (k : Int) < (ns.length : Int) := by omega
    have h2 : (0 : Int) ≤ k := by omega
    simp -dsimp [runF, d__law_cell, startL, L2.atI, L2.ixN, h1, h2, e, hk]
  · refine ⟨15489773 * k + 1783, ?_⟩
    have h1 : ¬ (k : Int) < (ns.length : Int) := by omega
    have q1 : mulOk 15489773 k = true := mul_small (by omega) (by omega)
    simp -dsimp [runF, d__law_cell, startL, h1, chk_of q1, hk]
theorem box_ok (C : Cc) (h : List O) (c : Int) : ∃ x y, runF C d__law_box [.int c] h = .ok (.ref h.length) (h ++ [.lst [.int x, .int y, .int 0]]) ∧ 0 ≤ x ∧ 0 ≤ y ∧ y < 2147483629 := by
  have p1 : powOk 10 18 = true := by decide
  refine ⟨if c - 10 ^ 18 > 0 then c - 10 ^ 18 else 0, c.fmod 2147483629, ?_, by split <;> omega, Int.fmod_nonneg_of_pos _ (by omega), Int.fmod_lt_of_pos _ (by omega)⟩
  simp -dsimp [runF, d__law_box, startL, chk_of p1, sizeLine_eq]
def Bx (b : Nat) (h : List O) (z : Int) : Prop := ∃ x y z', h[b]? = some (.lst [.int x, .int y, .int z']) ∧ 0 ≤ x ∧ 0 ≤ y ∧ y < 2147483629 ∧ 0 ≤ z' ∧ z' ≤ z
theorem Bx.app {b : Nat} {h : List O} {z : Int} {o : List O} (q : Bx b h z) : Bx b (h ++ o) z := by
  obtain ⟨x, y, z', e, r⟩ := q
  exact ⟨x, y, z', by rw [List.getElem?_append_left (List.getElem?_eq_some_iff.mp e).1]; exact e, r⟩
theorem Bx.le {b : Nat} {h : List O} {z z2 : Int} (q : Bx b h z) (l : z ≤ z2) : Bx b h z2 := by
  obtain ⟨x, y, z', e, h1, h2, h3, h4, h5⟩ := q
  exact ⟨x, y, z', e, h1, h2, h3, h4, by omega⟩
theorem take_c (k : Nat) (h : List O) (b : Nat) (z many : Int) (hb : Bx b h z) (hm : divOk many = true) (hm0 : 0 < many) (hz : z < 999) :
    ∃ r h', (L02.C (k + 1)).cn.call "_law_take" [.ref b, .int many] h = .ok (.int r) h' ∧ 0 ≤ r ∧ r < many ∧ Bx b h' (z + 1) := by
  obtain ⟨x, y, z', e, h1, h2, h3, h4, h5⟩ := hb
  obtain ⟨r, x', z2, q, a1, a2, a3, a4, a5⟩ := take_ok (L02.C k) h b x y z' many e hm hm0 h1 h2 h3 h4 (by omega)
  exact ⟨r, _, q, a1, a2, x', y, z2, by rw [List.getElem?_set_self (List.getElem?_eq_some_iff.mp e).1], a3, h2, h3, by omega, by omega⟩
abbrev ABC : Str := "abcdefghijklmnopqrstuvwxyz"
def sm (c : Nat) : Bool := !(Builtin.Str.occurrences ABC ⟨#[c]⟩ 0 ABC.length 1).isEmpty
def chs (cs : List Nat) : List W := cs.map fun c => .str ⟨#[c]⟩
theorem chars_chs (s : Str) : chars s = chs s.cps.toList := rfl
def allSm (s : Str) : Bool := s.cps.toList.all sm
theorem lc_step (f : W → List O → R (Option W)) (n : Nat) (w : W) (ws : List W) (h : List O) : lcLoop f [] n (w :: ws) h = (noX (f w h)).bind fun o h1 => match o with
    | some y => chk (decide (n < sizeLine)) ((lcLoop f [] (n + 1) ws h1).bind fun r h2 => .ok (y :: r) h2)
    | none => lcLoop f [] n ws h1 := rfl
theorem small_lc (C : Cn) (a : Option W) : ∀ (cs : List Nat) (n : Nat) (h : List O), n + cs.length < 1000 →
    lcLoop (lcBody C (.var 2) (.name 2) (.some (.cmp .NotIn (.var 2) (.str "abcdefghijklmnopqrstuvwxyz"))) [a, none, none]) [] n (chs cs) h = .ok (chs (cs.filter fun c => !sm c)) h
  | [], n, h, _ => rfl
  | c :: cs, n, h, hl => by
    rw [List.length_cons] at hl
    have ih1 := small_lc C a cs (n + 1) h (by omega)
    have ih2 := small_lc C a cs n h (by omega)
    have hn : decide (n < sizeLine) = true := decide_eq_true (by rw [sizeLine_eq]; omega)
    show lcLoop _ [] n (.str ⟨#[c]⟩ :: chs cs) h = _
    rw [lc_step]
    have e : inO h (.inr (.str ⟨#[c]⟩)) (.inr (.str "abcdefghijklmnopqrstuvwxyz")) = some (sm c) := rfl
    cases hc : sm c with
    | true =>
      rw [hc] at e
      simp -dsimp [lcBody, e, ih2, hc, -MP.in_str]
    | false =>
      rw [hc] at e
      simp -dsimp [lcBody, e, ih1, hc, hn, chk_of hn, -MP.in_str]
      rfl
theorem spell_lc (k : Nat) (a b d e : Option W) : ∀ (cs : List Nat) (n : Nat) (h : List O), n + cs.length < 1000 →
    lcLoop (lcBody (L02.C k).cn (.cmp .In (.var 4) (.glob "LETTERS")) (.name 4) .none [a, b, d, none, none]) [] n (chs cs) h = .ok (cs.map fun c => .bl (sm c)) h
  | [], n, h, _ => rfl
  | c :: cs, n, h, hl => by
    rw [List.length_cons] at hl
    have ih1 := spell_lc k a b d e cs (n + 1) h (by omega)
    have hn : decide (n < sizeLine) = true := decide_eq_true (by rw [sizeLine_eq]; omega)
    have eg : (L02.C k).cn.gl "LETTERS" = some (.str "abcdefghijklmnopqrstuvwxyz") := by cases k <;> rfl
    have ei : inO h (.inr (.str ⟨#[c]⟩)) (.inr (.str "abcdefghijklmnopqrstuvwxyz")) = some (sm c) := rfl
    show lcLoop _ [] n (.str ⟨#[c]⟩ :: chs cs) h = _
    rw [lc_step]
    simp -dsimp [lcBody, eg, ei, ih1, chk_of hn, -MP.in_str]
theorem unBls_map (cs : List Nat) : unBls (cs.map fun c => W.bl (sm c)) = some (cs.map sm) := by
  induction cs with
  | nil => rfl
  | cons c cs ih => rw [List.map_cons, unBls, ih]; rfl
theorem all_lem (cs : List Nat) (h : List O) : bltL "all" (cs.map fun c => W.bl (sm c)) h = .ok (.bl (cs.all sm)) h := by
  unfold bltL
  rw [if_pos rfl, unBls_map]
  simp [List.all_map]
theorem isi_str (C : Cc) (s : Str) (h : List O) : isiW ["str"] (.str s) h = .ok (.bl true) h := rfl
theorem spelled_s (k : Nat) (s : Str) (lo hi : Int) (h : List O) (hs : s.length < 900) : runF (L02.C k) d_is_spelled [.str s, .int lo, .int hi] h = .ok (.bl (decide (lo ≤ s.length) && decide ((s.length : Int) ≤ hi) && allSm s)) h := by
  have hn : decide (s.length ≤ sizeLine) = true := decide_eq_true (by rw [sizeLine_eq]; omega)
  have lc := spell_lc k (some (.str s)) (some (.int lo)) (some (.int hi)) none s.cps.toList 0 h (by have : s.cps.toList.length = s.length := rfl; omega)
  have al := all_lem s.cps.toList h
  by_cases h1 : lo ≤ s.length
  · by_cases h2 : (s.length : Int) ≤ hi
    · simp -dsimp [runF, d_is_spelled, startL, isi_str (L02.C k), chk_of hn, h1, h2, wipeL, chars_chs, lc, al, allSm]
    · simp -dsimp [runF, d_is_spelled, startL, isi_str (L02.C k), chk_of hn, h1, h2]
  · simp -dsimp [runF, d_is_spelled, startL, isi_str (L02.C k), chk_of hn, h1]
theorem spelled_n (C : Cc) (w : W) (t : String) (lo hi : Int) (h : List O) (hw : wType w h = some t) (ht : isiB t "str" = false) : runF C d_is_spelled [w, .int lo, .int hi] h = .ok (.bl false) h := by
  simp -dsimp [runF, d_is_spelled, startL, isiW, hw, ht]
theorem lay_strs : ∀ cs : List Nat, cs.all (fun c => decide (c < 0x110000)) = true → PyData.canLayAll0 (cs.map fun c => PyData.str ⟨#[c]⟩) = true ∧ PyData.depthAll (cs.map fun c => PyData.str ⟨#[c]⟩) = 0
  | [], _ => ⟨rfl, rfl⟩
  | c :: cs, h => by
    rw [List.all_cons, Bool.and_eq_true] at h
    obtain ⟨a, b⟩ := lay_strs cs h.2
    rw [List.map_cons, PyData.canLayAll0, PyData.depthAll, a, b]
    refine ⟨?_, by simp [PyData.depth]⟩
    have : c < 0x110000 := of_decide_eq_true h.1
    simp [PyData.canLay0, PyData.strOk, this]
theorem toD_chs (h : List O) : ∀ cs : List Nat, (chs cs).mapM (toD h dDepth) = some (cs.map fun c => PyData.str ⟨#[c]⟩)
  | [] => rfl
  | c :: cs => by
    show List.mapM (toD h dDepth) (.str ⟨#[c]⟩ :: chs cs) = _
    rw [List.mapM_cons, toD_chs h cs]
    rfl
theorem eq_chs (h : List O) (cs : List Nat) (hc : cs.all (fun c => decide (c < 0x110000)) = true) : eqO h (.inl (chs cs)) (.inl []) = some cs.isEmpty := by
  obtain ⟨a, b⟩ := lay_strs cs hc
  have e1 : datO h (.inl (chs cs)) = some (.list (cs.map fun c => PyData.str ⟨#[c]⟩)) := by
    show Option.map PyData.list (List.mapM (toD h dDepth) (chs cs)) = _
    rw [toD_chs]
    rfl
  have s1 : SeqAt.shaped (.list (cs.map fun c => PyData.str ⟨#[c]⟩)) = true := by
    unfold SeqAt.shaped
    rw [PyData.canLay0, a, PyData.depth, b]
    rfl
  have s2 : SeqAt.shaped (.list []) = true := by decide
  have e2 : datO h (.inl []) = some (.list []) := rfl
  have z : eqO h (.inl (chs cs)) (.inl []) = (match datO h (.inl (chs cs)), datO h (.inl []) with
    | some d, some e => if (SeqAt.shaped d && SeqAt.shaped e) = true then some (PyData.eqv d e) else none
    | _, _ => none) := rfl
  rw [z, e1, e2]
  dsimp only
  rw [s1, s2]
  cases cs <;> rfl
def okS (s : Str) : Prop := s.length < 900 ∧ s.cps.toList.all (fun c => decide (c < 0x110000)) = true
theorem filt (cs : List Nat) : (cs.filter fun c => !sm c).isEmpty = cs.all sm := by
  induction cs with
  | nil => rfl
  | cons c cs ih =>
    rw [List.all_cons, List.filter_cons]
    cases sm c <;> simp [ih] at *
theorem small_ok (C : Cc) (s : Str) (h : List O) (hs : okS s) : runF C d__law_are_small [.str s] h = .ok (.bl (allSm s)) h := by
  have lc := small_lc C.cn (some (.str s)) s.cps.toList 0 h (by have : s.cps.toList.length = s.length := rfl; have := hs.1; omega)
  have e := eq_chs h (s.cps.toList.filter fun c => !sm c) (by
    rw [List.all_eq_true]
    intro c hc
    exact List.all_eq_true.mp hs.2 c (List.mem_filter.mp hc).1)
  rw [filt] at e
  simp -dsimp [runF, d__law_are_small, startL, wipeL, chars_chs, lc, e, allSm]
theorem gl6 (k : Nat) : (L02.C k).cn.gl "LONGEST_WORD" = some (.int 6) := by cases k <;> rfl
theorem gl8 (k : Nat) : (L02.C k).cn.gl "LONGEST_NAME" = some (.int 8) := by cases k <;> rfl
theorem c_spell (k : Nat) (ws : List W) (h : List O) : (L02.C (k + 1)).cn.call "is_spelled" ws h = runF (L02.C k) d_is_spelled ws h := rfl
theorem c_word (k : Nat) (ws : List W) (h : List O) : (L02.C (k + 1)).cn.call "is_word" ws h = runF (L02.C k) d_is_word ws h := rfl
theorem c_name (k : Nat) (ws : List W) (h : List O) : (L02.C (k + 1)).cn.call "is_name" ws h = runF (L02.C k) d_is_name ws h := rfl
theorem c_letter (k : Nat) (ws : List W) (h : List O) : (L02.C (k + 1)).cn.call "is_letter" ws h = runF (L02.C k) d_is_letter ws h := rfl
theorem c_small (k : Nat) (ws : List W) (h : List O) : (L02.C (k + 1)).cn.call "_law_are_small" ws h = runF (L02.C k) d__law_are_small ws h := rfl
theorem c_whole (k : Nat) (ws : List W) (h : List O) : (L02.C (k + 1)).cn.call "is_whole" ws h = runF (L02.C k) d_is_whole ws h := rfl
theorem c_integer (k : Nat) (ws : List W) (h : List O) : (L02.C (k + 1)).cn.call "is_integer" ws h = runF (L02.C k) d_is_integer ws h := rfl
theorem c_right (k : Nat) (ws : List W) (h : List O) : (L02.C (k + 1)).cn.call "_law_right" ws h = runF (L02.C k) d__law_right ws h := rfl
theorem c_intr (k : Nat) (ws : List W) (h : List O) : (L02.C (k + 1)).cn.call "_law_integers_right" ws h = runF (L02.C k) d__law_integers_right ws h := rfl
theorem c_line (k : Nat) (ws : List W) (h : List O) : (L02.C (k + 1)).cn.call "_law_line" ws h = runF (L02.C k) d__law_line ws h := rfl
theorem c_box (k : Nat) (ws : List W) (h : List O) : (L02.C (k + 1)).cn.call "_law_box" ws h = runF (L02.C k) d__law_box ws h := rfl
theorem c_cell (k : Nat) (ws : List W) (h : List O) : (L02.C (k + 1)).cn.call "_law_cell" ws h = runF (L02.C k) d__law_cell ws h := rfl
def three (w : W) (n : Int) (h : List O) (a b c : Bool) (k : Nat) : Prop := runF (L02.C (k + 1)) d_is_word [w] h = .ok (.bl a) h ∧ runF (L02.C (k + 1)) d_is_name [w] h = .ok (.bl b) h ∧ runF (L02.C (k + 1)) d_is_letter [w] h = .ok (.bl c) h
def shown3 (a b c : Bool) : Str := PyData.shown (.list [.bool a, .bool b, .bool c])
theorem shown3_ok (a b c : Bool) : ((PyData.list [.bool a, .bool b, .bool c]).showable && decide ((PyData.list [.bool a, .bool b, .bool c]).shown.length ≤ sizeLine)) = true := by
  rw [sizeLine_eq]
  cases a <;> cases b <;> cases c <;> decide +kernel
theorem rep_l (h : List O) (a b c : Bool) : reprO h (.inl [.bl a, .bl b, .bl c]) = .ok (.str (shown3 a b c)) h := by
  have e : datO h (.inl [.bl a, .bl b, .bl c]) = some (.list [.bool a, .bool b, .bool c]) := rfl
  unfold reprO
  rw [e]
  dsimp only
  rw [chk_of (shown3_ok a b c)]
  rfl
theorem rep_r (h : List O) (n : Nat) (a b c : Bool) (hn : h[n]? = some (.lst [.bl a, .bl b, .bl c])) : reprO h (.inr (.ref n)) = .ok (.str (shown3 a b c)) h := by
  have e : datO h (.inr (.ref n)) = some (.list [.bool a, .bool b, .bool c]) := by
    show toD h dDepth (.ref n) = _
    unfold dDepth
    rw [toD, hn]
    rfl
  unfold reprO
  rw [e]
  dsimp only
  rw [chk_of (shown3_ok a b c)]
  rfl
theorem three_s (k : Nat) (s : Str) (h : List O) (hs : okS s) : three (.str s) 0 h (decide ((0 : Int) ≤ s.length) && decide ((s.length : Int) ≤ 6) && allSm s) (decide ((1 : Int) ≤ s.length) && decide ((s.length : Int) ≤ 8) && allSm s) (decide ((1 : Int) ≤ s.length) && decide ((s.length : Int) ≤ 1) && allSm s) k := by
  have e0 : (L02.C (k + 1)).cn.call "is_spelled" [.str s, .int 0, .int 6] h = _ := spelled_s k s 0 6 h hs.1
  have e1 : (L02.C (k + 1)).cn.call "is_spelled" [.str s, .int 1, .int 8] h = _ := spelled_s k s 1 8 h hs.1
  have e2 : (L02.C (k + 1)).cn.call "is_spelled" [.str s, .int 1, .int 1] h = _ := spelled_s k s 1 1 h hs.1
  refine ⟨?_, ?_, ?_⟩
  · simp -dsimp [runF, d_is_word, startL, e0, gl6]
  · simp -dsimp [runF, d_is_name, startL, e1, gl8]
  · simp -dsimp [runF, d_is_letter, startL, e2]
theorem three_n (k : Nat) (w : W) (t : String) (h : List O) (hw : wType w h = some t) (ht : isiB t "str" = false) : three w 0 h false false false k := by
  have e0 : (L02.C (k + 1)).cn.call "is_spelled" [w, .int 0, .int 6] h = _ := spelled_n (L02.C k) w t 0 6 h hw ht
  have e1 : (L02.C (k + 1)).cn.call "is_spelled" [w, .int 1, .int 8] h = _ := spelled_n (L02.C k) w t 1 8 h hw ht
  have e2 : (L02.C (k + 1)).cn.call "is_spelled" [w, .int 1, .int 1] h = _ := spelled_n (L02.C k) w t 1 1 h hw ht
  refine ⟨?_, ?_, ?_⟩
  · simp -dsimp [runF, d_is_word, startL, e0, gl6]
  · simp -dsimp [runF, d_is_name, startL, e1, gl8]
  · simp -dsimp [runF, d_is_letter, startL, e2]
theorem right_s (k : Nat) (s : Str) (h : List O) (hs : okS s) : ∃ o, (L02.C (k + 3)).cn.call "_law_right" [.str s] h = .ok (.bl true) (h ++ [o]) := by
  have hl : decide (s.length ≤ sizeLine) = true := decide_eq_true (by rw [sizeLine_eq]; have := hs.1; omega)
  have hl2 : decide (s.length ≤ 16777216) = true := decide_eq_true (by have := hs.1; omega)
  have u1 : ∀ o, (L02.C (k + 2)).cn.call "is_word" [.str s] (h ++ [o]) = .ok (.bl (decide ((0 : Int) ≤ s.length) && decide ((s.length : Int) ≤ 6) && allSm s)) (h ++ [o]) := fun o => (three_s k s (h ++ [o]) hs).1
  have u2 : ∀ o, (L02.C (k + 2)).cn.call "is_name" [.str s] (h ++ [o]) = .ok (.bl (decide ((1 : Int) ≤ s.length) && decide ((s.length : Int) ≤ 8) && allSm s)) (h ++ [o]) := fun o => (three_s k s (h ++ [o]) hs).2.1
  have u3 : ∀ o, (L02.C (k + 2)).cn.call "is_letter" [.str s] (h ++ [o]) = .ok (.bl (decide ((1 : Int) ≤ s.length) && decide ((s.length : Int) ≤ 1) && allSm s)) (h ++ [o]) := fun o => (three_s k s (h ++ [o]) hs).2.2
  have us : (L02.C (k + 2)).cn.call "_law_are_small" [.str s] h = _ := small_ok (L02.C (k + 1)) s h hs
  have rr : ∀ a b c, reprO (h ++ [.lst [.bl a, .bl b, .bl c]]) (.inr (.ref h.length)) = .ok (.str (shown3 a b c)) (h ++ [.lst [.bl a, .bl b, .bl c]]) := fun a b c => rep_r _ h.length a b c (by rw [List.getElem?_append_right (Nat.le_refl _), Nat.sub_self]; rfl)
  have fin : ∀ (n1 n2 n3 n4 : Bool), decide ((s.length : Int) ≤ 6) = n1 → decide ((1 : Int) ≤ s.length) = n2 → decide ((s.length : Int) ≤ 8) = n3 → decide ((s.length : Int) ≤ 1) = n4 → ((s.length : Int) == 1) = (n2 && n4) →
      ∃ o, runF (L02.C (k + 2)) d__law_right [.str s] h = .ok (.bl true) (h ++ [o]) := by
    intro n1 n2 n3 n4 e1 e2 e3 e4 e5
    have z0 : decide ((0 : Int) ≤ s.length) = true := decide_eq_true (by omega)
    simp only [e1, e2, e3, e4, z0] at u1 u2 u3
    have f1 : ∀ h, cmpO .LtE (.inr (.int s.length)) (.inr (.int 6)) h = .ok (.bl n1) h := fun h => by rw [co_le, e1]
    have f2 : ∀ h, cmpW .LtE (.int 1) (.int s.length) h = .ok (.bl n2) h := fun h => by rw [cw_le, e2]
    have f3 : ∀ h, cmpW .LtE (.int s.length) (.int 8) h = .ok (.bl n3) h := fun h => by rw [cw_le, e3]
    have f4 : ∀ h, cmpO .Eq (.inr (.int s.length)) (.inr (.int 1)) h = .ok (.bl (n2 && n4)) h := fun h => by rw [co_eq, eq_ii, e5]; rfl
    have es : ∀ (x : Str) h, cmpO .Eq (.inr (.str x)) (.inr (.str x)) h = .ok (.bl true) h := fun x h => by rw [co_eq, eq_ss]; simp
    cases hb : allSm s <;> cases n1 <;> cases n2 <;> cases n3 <;> cases n4 <;>
      exact ⟨_, by simp -dsimp [runF, d__law_right, startL, isi_str (L02.C (k + 2)), us, u1, u2, u3, hb, f1, f2, f3, f4, es, chk_of hl, chk_of hl2, rep_l, rr, sizeLine_eq, -co_le, -cw_le, -co_eq]; rfl⟩
  refine fin _ _ _ _ rfl rfl rfl rfl ?_
  by_cases z : (s.length : Int) = 1
  · rw [z]; rfl
  · have : ((s.length : Int) == 1) = false := by simpa using z
    rw [this]
    by_cases z1 : (1 : Int) ≤ s.length
    · rw [decide_eq_true z1, decide_eq_false (by omega : ¬ (s.length : Int) ≤ 1)]; rfl
    · rw [decide_eq_false z1]; rfl
theorem right_n (k : Nat) (w : W) (t : String) (h : List O) (hw : ∀ o, wType w (h ++ [o]) = some t) (hw0 : wType w h = some t) (ht : isiB t "str" = false) : ∃ o, (L02.C (k + 3)).cn.call "_law_right" [w] h = .ok (.bl true) (h ++ [o]) := by
  have u1 : ∀ o, (L02.C (k + 2)).cn.call "is_word" [w] (h ++ [o]) = .ok (.bl false) (h ++ [o]) := fun o => (three_n k w t (h ++ [o]) (hw o) ht).1
  have u2 : ∀ o, (L02.C (k + 2)).cn.call "is_name" [w] (h ++ [o]) = .ok (.bl false) (h ++ [o]) := fun o => (three_n k w t (h ++ [o]) (hw o) ht).2.1
  have u3 : ∀ o, (L02.C (k + 2)).cn.call "is_letter" [w] (h ++ [o]) = .ok (.bl false) (h ++ [o]) := fun o => (three_n k w t (h ++ [o]) (hw o) ht).2.2
  have rr : ∀ a b c, reprO (h ++ [.lst [.bl a, .bl b, .bl c]]) (.inr (.ref h.length)) = .ok (.str (shown3 a b c)) (h ++ [.lst [.bl a, .bl b, .bl c]]) := fun a b c => rep_r _ h.length a b c (by rw [List.getElem?_append_right (Nat.le_refl _), Nat.sub_self]; rfl)
  have is0 : isiW ["str"] w h = .ok (.bl false) h := by unfold isiW; rw [hw0]; simp [ht]
  exact ⟨_, show runF (L02.C (k + 2)) d__law_right [w] h = _ by simp -dsimp [runF, d__law_right, startL, is0, u1, u2, u3, rep_l, rr, sizeLine_eq]; rfl⟩
theorem integer_i (k : Nat) (n lo hi : Int) (h : List O) : (L02.C (k + 2)).cn.call "is_integer" [.int n, .int lo, .int hi] h = .ok (.bl (decide (lo ≤ n) && decide (n ≤ hi))) h := by
  have w : (L02.C (k + 1)).cn.call "is_whole" [.int n] h = _ := whole_ok (L02.C k) (.int n) h "int" rfl
  have w2 : (isiB "int" "int" && !isiB "int" "bool") = true := by decide
  rw [w2] at w
  show runF (L02.C (k + 1)) d_is_integer [.int n, .int lo, .int hi] h = _
  by_cases h1 : lo ≤ n <;> simp -dsimp [runF, d_is_integer, startL, w, h1]
theorem integer_n (k : Nat) (w : W) (t : String) (lo hi : Int) (h : List O) (hw : wType w h = some t) (ht : (isiB t "int" && !isiB t "bool") = false) : (L02.C (k + 2)).cn.call "is_integer" [w, .int lo, .int hi] h = .ok (.bl false) h := by
  have w1 : (L02.C (k + 1)).cn.call "is_whole" [w] h = _ := whole_ok (L02.C k) w h t hw
  rw [ht] at w1
  show runF (L02.C (k + 1)) d_is_integer [w, .int lo, .int hi] h = _
  simp -dsimp [runF, d_is_integer, startL, w1]
theorem rep_b (b : Bool) (h : List O) : reprO h (.inr (.bl b)) = .ok (.str (PyData.shown (.bool b))) h := by
  have e : datO h (.inr (.bl b)) = some (.bool b) := rfl
  have c : ((PyData.bool b).showable && decide ((PyData.bool b).shown.length ≤ sizeLine)) = true := by
    rw [sizeLine_eq]
    cases b <;> decide +kernel
  unfold reprO
  rw [e]
  dsimp only
  rw [chk_of c]
/-- the turn of the loop over integers -/
theorem int_turn (k : Nat) (lo hi n : Int) (a b : W) (ℓ4 ℓ5 : Option W) (o3 : Option W) (h : List O) :
    liftE [some a, some (.int lo), some (.int hi), o3, ℓ4, ℓ5] (noX (evt (L02.C (k + 2)).cn (.name 3) (.int n) [some a, some (.int lo), some (.int hi), o3, ℓ4, ℓ5] h)) (fun ℓ h => evSs (L02.C (k + 2)) (.cons (.ife (.cmp .NotEq (.blt "repr" (.cons (.call "is_integer" (.cons (.var 3) (.cons (.var 1) (.cons (.var 2) .nil)))) .nil)) (.blt "repr" (.cons (.boolop .And (.cons (.cmp .LtE (.var 1) (.var 3)) (.cons (.cmp .LtE (.var 3) (.var 2)) .nil))) .nil))) (.cons (.ret (.bl false)) .nil) .nil) .nil) ℓ h) = .ok .nx [some a, some (.int lo), some (.int hi), some (.int n), ℓ4, ℓ5] h := by
  have e := integer_i k n lo hi h
  by_cases h1 : lo ≤ n <;> by_cases h2 : n ≤ hi <;> simp [e, h1, h2, rep_b]
end L02
set_option maxRecDepth 100000
set_option maxHeartbeats 4000000
namespace L02
open PySem PySem.Spec PyProof.Rows MP
abbrev SG : Str := Str.ofString "abcdefghijklmnopqrstuvwxyz" ++ Str.ofString "A09 -_`{~\n"
theorem sg_len : SG.cps.toList.length = 36 := by decide +kernel
theorem sg_all : SG.cps.toList.all (fun c => decide (c < 0x110000)) = true := by decide +kernel
theorem sg_at (r : Int) (h : List O) (h0 : 0 ≤ r) (h1 : r < 36) : ∃ c, subW (.str SG) (.int r) h = .ok (.str ⟨#[c]⟩) h ∧ c < 0x110000 := by
  obtain ⟨m, rfl⟩ := Int.eq_ofNat_of_zero_le h0
  have hm : m < SG.cps.toList.length := by rw [sg_len]; omega
  refine ⟨SG.cps.toList[m], ?_, of_decide_eq_true (List.all_eq_true.mp sg_all _ (List.getElem_mem hm))⟩
  have ha : L2.atI SG.cps.toList (m : Int) = some SG.cps.toList[m] := by
    unfold L2.atI L2.ixN
    rw [if_pos (by omega), if_pos (by omega)]
    show SG.cps.toList[((m : Int)).toNat]? = _
    rw [Int.toNat_natCast, List.getElem?_eq_getElem hm]
  have hl : decide (SG.length ≤ sizeLine) = true := by
    have : SG.length = 36 := sg_len
    rw [this, sizeLine_eq]; decide
  show chk (decide (SG.length ≤ sizeLine)) (match L2.atI SG.cps.toList (m : Int) with
    | some c => (R.ok (W.str ⟨#[c]⟩) h : R W)
    | none => .stuck) = _
  rw [chk_of hl, ha]
theorem line_lc (k b : Nat) (d e : Option W) : ∀ (ws : List W) (n : Nat) (h : List O) (z : Int), n + ws.length < 900 → Bx b h z → z + ws.length < 900 →
    ∃ cs h', lcLoop (lcBody (L02.C (k + 1)).cn (.sub (.var 1) (.call "_law_take" (.cons (.var 0) (.cons (.int 36) .nil)))) (.name 3) .none [some (.ref b), some (.str SG), none, none]) [] n ws h = .ok (chs cs) h' ∧ Bx b h' (z + ws.length) ∧ cs.length = ws.length ∧ cs.all (fun c => decide (c < 0x110000)) = true
  | [], n, h, z, _, hb, _ => ⟨[], h, rfl, by simpa using hb, rfl, rfl⟩
  | w :: ws, n, h, z, hl, hb, hz => by
    rw [List.length_cons] at hl hz
    obtain ⟨r, h1, q, a1, a2, hb1⟩ := take_c k h b z 36 hb (by decide) (by omega) (by omega)
    obtain ⟨c, q2, hc⟩ := sg_at r h1 a1 a2
    obtain ⟨cs, h2, q3, hb2, l2, c2⟩ := line_lc k b d e ws (n + 1) h1 (z + 1) (by omega) hb1 (by omega)
    have hn : decide (n < sizeLine) = true := decide_eq_true (by rw [sizeLine_eq]; omega)
    refine ⟨c :: cs, h2, ?_, by rw [List.length_cons]; exact hb2.le (by omega), by rw [List.length_cons, List.length_cons, l2], by rw [List.all_cons, c2, decide_eq_true hc]; rfl⟩
    rw [lc_step]
    simp -dsimp [lcBody, q, q2, q3, chk_of hn]
    rfl
theorem unStrs_chs : ∀ cs : List Nat, unStrs (chs cs) = some (cs.map fun c => (⟨#[c]⟩ : Str))
  | [] => rfl
  | c :: cs => by
    show unStrs (.str ⟨#[c]⟩ :: chs cs) = _
    rw [unStrs, unStrs_chs cs]; rfl
theorem joinL_one : ∀ cs : List Nat, TL.joinL [] (cs.map fun c => [c]) = cs
  | [] => rfl
  | [c] => rfl
  | c :: d :: cs => by
    have ih := joinL_one (d :: cs)
    show [c] ++ ([] ++ TL.joinL [] ((d :: cs).map fun c => [c])) = _
    rw [ih]; rfl
theorem join_cps (cs : List Nat) : (Txt.join (Str.ofString "") (cs.map fun c => (⟨#[c]⟩ : Str))).cps.toList = cs := by
  have e := TL.tl_join (Str.ofString "") (cs.map fun c => (⟨#[c]⟩ : Str))
  rw [TL.join_eq]
  refine Eq.trans e ?_
  rw [List.map_map]
  exact joinL_one cs
theorem join_ok (cs : List Nat) (h : List O) (hl : cs.length < 900) (hc : cs.all (fun c => decide (c < 0x110000)) = true) : ∃ s, joinR (Str.ofString "") (chs cs) h = .ok (.str s) h ∧ s.cps.toList = cs ∧ okS s := by
  have e := join_cps cs
  refine ⟨Txt.join (Str.ofString "") (cs.map fun c => (⟨#[c]⟩ : Str)), ?_, e, ?_, by rw [e]; exact hc⟩
  · unfold joinR
    rw [unStrs_chs]
    dsimp only
    have sl : ∀ cs : List Nat, ((cs.map fun c => (⟨#[c]⟩ : Str)).map (·.length)).sum = cs.length := by
      intro cs
      induction cs with
      | nil => rfl
      | cons c cs ih => rw [List.map_cons, List.map_cons, List.sum_cons, ih, List.length_cons]; show 1 + cs.length = _; omega
    rw [chk_of (decide_eq_true (by rw [sl, List.length_map]; show cs.length + cs.length * 0 ≤ _; omega))]
  · show (Txt.join (Str.ofString "") (cs.map fun c => (⟨#[c]⟩ : Str))).cps.size < 900
    rw [← Array.length_toList, e]; exact hl
theorem line_ok (k b : Nat) (h : List O) (z : Int) (hb : Bx b h z) (hz : z < 500) : ∃ s h', (L02.C (k + 2)).cn.call "_law_line" [.ref b] h = .ok (.str s) h' ∧ okS s ∧ s.length ≤ 10 ∧ Bx b h' (z + 12) := by
  obtain ⟨r, h1, q, a1, a2, hb1⟩ := take_c k h b z 11 hb (by decide) (by omega) (by omega)
  have hlen : (rngL 0 r.toNat).length = r.toNat := by unfold rngL; simp
  obtain ⟨cs, h2, q2, hb2, l2, c2⟩ := line_lc k b none none (rngL 0 r.toNat) 0 h1 (z + 1) (by omega) hb1 (by omega)
  obtain ⟨s, q3, e3, o3⟩ := join_ok cs h2 (by omega) c2
  have sl : s.length = cs.length := by show s.cps.size = _; rw [← Array.length_toList, e3]
  have hs : decide ((Str.ofString "abcdefghijklmnopqrstuvwxyz").length + (Str.ofString "A09 -_`{~\n").length ≤ sizeLine) = true := by
    rw [sizeLine_eq]; decide +kernel
  have hr : rngOk r = true := decide_eq_true ⟨by omega, by omega⟩
  refine ⟨s, h2, ?_, o3, by omega, hb2.le (by omega)⟩
  show runF (L02.C (k + 1)) d__law_line [.ref b] h = _
  simp -dsimp [runF, d__law_line, startL, chk_of hs, q, wipeL, chk_of hr, q2, q3]
end L02
set_option maxRecDepth 100000
set_option maxHeartbeats 4000000
namespace L02
open PySem PySem.Spec PyProof.Rows MP
theorem int_for (k : Nat) (lo hi : Int) (a : W) (ℓ4 ℓ5 : Option W) : ∀ (ns : List Int) (o3 : Option W) (h : List O), ∃ o3', forL (forBody (L02.C (k + 2)) (.name 3) (.cons (.ife (.cmp .NotEq (.blt "repr" (.cons (.call "is_integer" (.cons (.var 3) (.cons (.var 1) (.cons (.var 2) .nil)))) .nil)) (.blt "repr" (.cons (.boolop .And (.cons (.cmp .LtE (.var 1) (.var 3)) (.cons (.cmp .LtE (.var 3) (.var 2)) .nil))) .nil))) (.cons (.ret (.bl false)) .nil) .nil) .nil)) [] (ns.map W.int) [some a, some (.int lo), some (.int hi), o3, ℓ4, ℓ5] h = .ok .nx [some a, some (.int lo), some (.int hi), o3', ℓ4, ℓ5] h
  | [], o3, h => ⟨o3, rfl⟩
  | n :: ns, o3, h => by
    obtain ⟨o, ih⟩ := int_for k lo hi a ℓ4 ℓ5 ns (some (.int n)) h
    refine ⟨o, ?_⟩
    rw [List.map_cons, for_cons]
    show turnS (liftE _ (noX (evt (L02.C (k + 2)).cn (.name 3) (.int n) [some a, some (.int lo), some (.int hi), o3, ℓ4, ℓ5] h)) _) _ = _
    rw [int_turn k lo hi n a a ℓ4 ℓ5 o3 h, turnS_nx, ih]
theorem intn_lc (k : Nat) (a lo hi o3 : Option W) (h : List O) : ∀ (ws : List W) (n : Nat), n + ws.length < 900 → (∀ w ∈ ws, ∃ t, wType w h = some t ∧ (isiB t "int" && !isiB t "bool") = false) →
    lcLoop (lcBody (L02.C (k + 2)).cn (.call "is_integer" (.cons (.var 5) (.cons (.int 0) (.cons (.int 9) .nil)))) (.name 5) .none [a, lo, hi, o3, none, none]) [] n ws h = .ok (ws.map fun _ => .bl false) h
  | [], n, _, _ => rfl
  | w :: ws, n, hl, hw => by
    rw [List.length_cons] at hl
    obtain ⟨t, h1, h2⟩ := hw w List.mem_cons_self
    have ih := intn_lc k a lo hi o3 h ws (n + 1) (by omega) fun x hx => hw x (List.mem_cons_of_mem _ hx)
    have e := integer_n k w t 0 9 h h1 h2
    have hn : decide (n < sizeLine) = true := decide_eq_true (by rw [sizeLine_eq]; omega)
    rw [lc_step]
    simp -dsimp [lcBody, e, ih, chk_of hn]
theorem eq7 (h : List O) : eqO h (.inl [.bl false, .bl false, .bl false, .bl false, .bl false, .bl false, .bl false]) (.inl [.bl false, .bl false, .bl false, .bl false, .bl false, .bl false, .bl false]) = some true := by rfl
theorem eq8 (h : List O) : eqO h (.inl [.bl true, .bl true, .bl true, .bl true, .bl true, .bl true, .bl true, .bl true]) (.inl [.bl true, .bl true, .bl true, .bl true, .bl true, .bl true, .bl true, .bl true]) = some true := by rfl
theorem intr_ok (k b : Nat) (h : List O) (z : Int) (hb : Bx b h z) (hz : z < 500) : ∃ h', (L02.C (k + 3)).cn.call "_law_integers_right" [.ref b] h = .ok (.bl true) h' := by
  obtain ⟨r3, h1, q1, a1, a2, hb1⟩ := take_c (k + 1) h b z 3 hb (by decide) (by omega) (by omega)
  have hm : ∃ m : Int, L2.atI [W.int 10, W.int 100, W.int 100000000000000000000000000000] r3 = some (.int m) ∧ divOk m = true ∧ 0 < m := by
    have : r3 = 0 ∨ r3 = 1 ∨ r3 = 2 := by omega
    rcases this with rfl | rfl | rfl
    · exact ⟨10, rfl, by decide, by decide⟩
    · exact ⟨100, rfl, by decide, by decide⟩
    · exact ⟨100000000000000000000000000000, rfl, by decide +kernel, by decide⟩
  obtain ⟨m, e1, e2, e3⟩ := hm
  obtain ⟨r, h2, q2, _, _, hb2⟩ := take_c (k + 1) h1 b (z + 1) m hb1 e2 e3 (by omega)
  obtain ⟨r6, h3, q3, _, _, hb3⟩ := take_c (k + 1) h2 b (z + 1 + 1) 6 hb2 (by decide) (by omega) (by omega)
  have p1 : powOk 10 29 = true := by decide
  have p7 : decide ((-(2 ^ 63) : Int) ≤ 7 ∧ (7 : Int) < 2 ^ 63) = true := by decide
  obtain ⟨o3, fl⟩ := int_for k (r - 5) (r - 5 + r6 - 1) (.ref b) none none [r - 5 - 1, r - 5, r - 5 + 1, r - 5 + r6 - 1, r - 5 + r6] none h3
  let h5 := h3 ++ [O.lst [.int 1], O.dct []]
  have lc := intn_lc k (some (.ref b)) (some (.int (r - 5))) (some (.int (r - 5 + r6 - 1))) o3 h5 [.bl true, .bl false, .non, .str "1", .ref h3.length, .tup [.int 1], .ref (h3.length + 1)] 0 (by simp) (by
    intro w hw
    simp only [List.mem_cons, List.not_mem_nil, or_false] at hw
    rcases hw with rfl | rfl | rfl | rfl | rfl | rfl | rfl
    · exact ⟨"bool", rfl, by decide⟩
    · exact ⟨"bool", rfl, by decide⟩
    · exact ⟨"NoneType", rfl, by decide⟩
    · exact ⟨"str", rfl, by decide⟩
    · refine ⟨"list", ?_, by decide⟩
      have : h5[h3.length]? = some (.lst [.int 1]) := by
        show (h3 ++ [O.lst [.int 1], O.dct []])[h3.length]? = _
        rw [List.getElem?_append_right (Nat.le_refl _), Nat.sub_self]; rfl
      unfold wType; dsimp only; rw [this]
    · exact ⟨"tuple", rfl, by decide⟩
    · refine ⟨"dict", ?_, by decide⟩
      have : h5[h3.length + 1]? = some (.dct []) := by
        show (h3 ++ [O.lst [.int 1], O.dct []])[h3.length + 1]? = _
        rw [List.getElem?_append_right (by omega), Nat.add_sub_cancel_left]; rfl
      unfold wType; dsimp only; rw [this])
  refine ⟨h5, ?_⟩
  show runF (L02.C (k + 2)) d__law_integers_right [.ref b] h = _
  have fl' := fl
  simp only [List.map_cons, List.map_nil] at fl' lc
  have rp : (List.replicate 7 [W.bl false]).flatten = [.bl false, .bl false, .bl false, .bl false, .bl false, .bl false, .bl false] := rfl
  have lc2 := lc
  simp only [h5] at lc2
  simp -dsimp [runF, d__law_integers_right, startL, q1, e1, q2, q3, chk_of p1, sizeLine_eq, fl', wipeL, mergeW, lc2, rp, eq7, h5]
end L02
set_option maxRecDepth 100000
set_option maxHeartbeats 4000000
namespace L02
open PySem PySem.Spec PyProof.Rows MP
theorem cut_ok (s : Str) (lo hi : Option Int) (hs : okS s) : okS (L2.cutS s lo hi) ∧ (L2.cutS s lo hi).length ≤ s.length := by
  have hl : (L2.cutS s lo hi).length ≤ s.length := by
    show ((List.take _ (List.drop _ s.cps.toList)).toArray).size ≤ s.cps.size
    rw [List.size_toArray, List.length_take, List.length_drop, Array.length_toList]
    omega
  refine ⟨⟨by have := hs.1; omega, ?_⟩, hl⟩
  show (List.take _ (List.drop _ s.cps.toList)).all _ = true
  rw [List.all_eq_true]
  intro c hc
  exact List.all_eq_true.mp hs.2 c (List.mem_of_mem_drop (List.mem_of_mem_take hc))
theorem app_ok (s t : Str) (hs : okS s) (ht : okS t) (hl : s.length + t.length < 900) : okS (s ++ t) ∧ (s ++ t).length = s.length + t.length := by
  have e : (s ++ t).cps = s.cps ++ t.cps := rfl
  have l : (s ++ t).length = s.length + t.length := by show (s ++ t).cps.size = _; rw [e, Array.size_append]; rfl
  refine ⟨⟨by omega, ?_⟩, l⟩
  rw [e, Array.toList_append, List.all_append, hs.2, ht.2]; rfl
theorem sm_one (c : Nat) : allSm ⟨#[c]⟩ = sm c := by simp [allSm]
theorem sign_lc (k : Nat) (l0 l1 l2 l3 l4 l5 : Option W) : ∀ (cs : List Nat) (n : Nat) (h : List O), n + cs.length < 900 → cs.all (fun c => decide (c < 0x110000)) = true →
    lcLoop (lcBody (L02.C (k + 1)).cn (.var 7) (.name 7) (.some (.call "_law_are_small" (.cons (.var 7) .nil))) [l0, l1, l2, l3, l4, l5, none, none]) [] n (chs cs) h = .ok (chs (cs.filter sm)) h
  | [], n, h, _, _ => rfl
  | c :: cs, n, h, hl, ha => by
    rw [List.length_cons] at hl
    rw [List.all_cons, Bool.and_eq_true] at ha
    have ih1 := sign_lc k l0 l1 l2 l3 l4 l5 cs (n + 1) h (by omega) ha.2
    have ih2 := sign_lc k l0 l1 l2 l3 l4 l5 cs n h (by omega) ha.2
    have hn : decide (n < sizeLine) = true := decide_eq_true (by rw [sizeLine_eq]; omega)
    have e : (L02.C (k + 1)).cn.call "_law_are_small" [.str ⟨#[c]⟩] h = _ := small_ok (L02.C k) ⟨#[c]⟩ h ⟨by show 1 < 900; omega, by rw [List.all_cons]; simpa using ha.1⟩
    rw [sm_one] at e
    show lcLoop _ [] n (.str ⟨#[c]⟩ :: chs cs) h = _
    rw [lc_step]
    cases hc : sm c with
    | true =>
      rw [hc] at e
      simp -dsimp [lcBody, e, ih1, hc, chk_of hn]
      rfl
    | false =>
      rw [hc] at e
      simp -dsimp [lcBody, e, ih2, hc]
abbrev B5 : Mss := (.cons (.ife (.not (.call "_law_right" (.cons (.var 5) .nil))) (.cons (.ret (.bl false)) .nil) .nil) .nil)
theorem txt_for (k b : Nat) (z : Int) (l0 l1 l2 l3 l4 l6 l7 : Option W) : ∀ (ss : List Str) (o5 : Option W) (h : List O), (∀ s ∈ ss, okS s) → Bx b h z →
    ∃ o5' h', forL (forBody (L02.C (k + 3)) (.name 5) B5) [] (ss.map W.str) [l0, l1, l2, l3, l4, o5, l6, l7] h = .ok .nx [l0, l1, l2, l3, l4, o5', l6, l7] h' ∧ Bx b h' z
  | [], o5, h, _, hb => ⟨o5, h, rfl, hb⟩
  | s :: ss, o5, h, hs, hb => by
    obtain ⟨o, e⟩ := right_s k s h (hs s List.mem_cons_self)
    obtain ⟨o5', h', ih, hb'⟩ := txt_for k b z l0 l1 l2 l3 l4 l6 l7 ss (some (.str s)) (h ++ [o]) (fun x hx => hs x (List.mem_cons_of_mem _ hx)) hb.app
    refine ⟨o5', h', ?_, hb'⟩
    rw [List.map_cons, for_cons]
    have t : forBody (L02.C (k + 3)) (.name 5) B5 (.str s) [l0, l1, l2, l3, l4, o5, l6, l7] h = .ok .nx [l0, l1, l2, l3, l4, some (.str s), l6, l7] (h ++ [o]) := by
      simp -dsimp [forBody, e]
    rw [t, turnS_nx, ih]
abbrev B1 : Mss := (.cons (.asg (.name 2) (.call "_law_box" (.cons (.call "_law_cell" (.cons (.var 0) (.cons (.var 1) .nil))) .nil))) (.cons (.asg (.name 3) (.call "_law_line" (.cons (.var 2) .nil))) (.cons (.asg (.name 4) (.bm "join" (.str "") (.cons (.lcomp (.var 7) (.name 7) (.val (.var 3)) (.some (.call "_law_are_small" (.cons (.var 7) .nil))) [6, 7]) .nil))) (.cons (.for (.name 5) (.val (.lst (.cons (.var 3) (.cons (.var 4) (.cons (.slice (.var 4) .none (.some (.int 1))) (.cons (.slice (.var 4) .none (.some (.int 6))) (.cons (.bin .Add (.slice (.var 4) .none (.some (.int 6))) (.str "a")) (.cons (.bin .Add (.slice (.var 4) .none (.some (.int 1))) (.var 4)) (.cons (.slice (.var 3) .none (.some (.int 1))) (.cons (.str "") (.cons (.str "abcdefgh") .nil))))))))))) (.cons (.ife (.not (.call "_law_right" (.cons (.var 5) .nil))) (.cons (.ret (.bl false)) .nil) .nil) .nil)) (.cons (.ife (.not (.call "_law_integers_right" (.cons (.var 2) .nil))) (.cons (.ret (.bl false)) .nil) .nil) .nil)))))
theorem turn1 (ns : List Int) (i : Nat) (x1 x2 x3 x4 x5 : Option W) (h : List O) : ∃ y1 y2 y3 y4 y5 h', forBody (L02.C 7) (.name 1) B1 (.int i) [some (.slst (ns.map W.int)), x1, x2, x3, x4, x5, none, none] h = .ok .nx [some (.slst (ns.map W.int)), y1, y2, y3, y4, y5, none, none] h' := by
  obtain ⟨c, q1⟩ := cell_ok (L02.C 6) h ns i
  obtain ⟨x, y, q2, a1, a2, a3⟩ := box_ok (L02.C 6) h c
  have c1 : (L02.C 7).cn.call "_law_cell" [.slst (ns.map W.int), .int i] h = _ := q1
  have c2 : (L02.C 7).cn.call "_law_box" [.int c] h = _ := q2
  have hb : Bx h.length (h ++ [.lst [.int x, .int y, .int 0]]) 0 := ⟨x, y, 0, by rw [List.getElem?_append_right (Nat.le_refl _), Nat.sub_self]; rfl, a1, a2, a3, by omega, by omega⟩
  obtain ⟨s, h1, q3, os, sl, hb1⟩ := line_ok 5 h.length _ 0 hb (by omega)
  have sc := sign_lc 6 (some (.slst (ns.map W.int))) (some (.int i)) (some (.ref h.length)) (some (.str s)) x4 x5 s.cps.toList 0 h1 (by have : s.cps.toList.length = s.length := rfl; omega) os.2
  obtain ⟨t, q4, e4, ot⟩ := join_ok (s.cps.toList.filter sm) h1 (by have := List.length_filter_le sm s.cps.toList; have : s.cps.toList.length = s.length := rfl; omega) (by
    rw [List.all_eq_true]; intro c hc; exact List.all_eq_true.mp os.2 c (List.mem_filter.mp hc).1)
  have tl : t.length ≤ 10 := by
    have := List.length_filter_le sm s.cps.toList
    have e : t.length = (s.cps.toList.filter sm).length := by rw [← e4]; rfl
    have : s.cps.toList.length = s.length := rfl
    omega
  obtain ⟨o1, l1⟩ := cut_ok t none (some 1) ot
  obtain ⟨o6, l6⟩ := cut_ok t none (some 6) ot
  obtain ⟨os1, ls1⟩ := cut_ok s none (some 1) os
  have oa : okS (Str.ofString "a") := ⟨by decide +kernel, by decide +kernel⟩
  have la : (Str.ofString "a").length = 1 := by decide +kernel
  obtain ⟨o6a, _⟩ := app_ok _ _ o6 oa (by omega)
  obtain ⟨o1t, _⟩ := app_ok _ _ o1 ot (by omega)
  have k1 : decide (t.length ≤ sizeLine) = true := decide_eq_true (by rw [sizeLine_eq]; omega)
  have k2 : decide (s.length ≤ sizeLine) = true := decide_eq_true (by rw [sizeLine_eq]; omega)
  have k3 : decide ((L2.cutS t none (some 6)).length + (Str.ofString "a").length ≤ sizeLine) = true := decide_eq_true (by rw [sizeLine_eq]; omega)
  have k4 : decide ((L2.cutS t none (some 1)).length + t.length ≤ sizeLine) = true := decide_eq_true (by rw [sizeLine_eq]; omega)
  have k5 : decide (9 ≤ sizeLine) = true := decide_eq_true (by rw [sizeLine_eq]; omega)
  obtain ⟨o5, h2, q5, hb2⟩ := txt_for 4 h.length 12 (some (.slst (ns.map W.int))) (some (.int i)) (some (.ref h.length)) (some (.str s)) (some (.str t)) none none
    [s, t, L2.cutS t none (some 1), L2.cutS t none (some 6), L2.cutS t none (some 6) ++ Str.ofString "a", L2.cutS t none (some 1) ++ t, L2.cutS s none (some 1), Str.ofString "", Str.ofString "abcdefgh"] x5 h1 (by
      intro u hu
      simp only [List.mem_cons, List.not_mem_nil, or_false] at hu
      rcases hu with rfl | rfl | rfl | rfl | rfl | rfl | rfl | rfl | rfl <;> first
        | assumption
        | exact ⟨by decide +kernel, by decide +kernel⟩) (by simpa using hb1)
  obtain ⟨h3, q6⟩ := intr_ok 4 h.length h2 12 hb2 (by omega)
  refine ⟨some (.int i), some (.ref h.length), some (.str s), some (.str t), o5, h3, ?_⟩
  simp only [List.map_cons, List.map_nil] at q5
  simp -dsimp [forBody, c1, c2, q3, wipeL, chars_chs, sc, q4, chk_of k1, chk_of k2, chk_of k3, chk_of k4, chk_of k5, q5, q6]
end L02
set_option maxRecDepth 100000
set_option maxHeartbeats 4000000
namespace L02
open PySem PySem.Spec PyProof.Rows MP
theorem law_loop (ns : List Int) : ∀ (is : List Nat) (x1 x2 x3 x4 x5 : Option W) (h : List O), ∃ y1 y2 y3 y4 y5 h', forL (forBody (L02.C 7) (.name 1) B1) [] (is.map fun k : Nat => W.int (0 + (k : Int))) [some (.slst (ns.map W.int)), x1, x2, x3, x4, x5, none, none] h = .ok .nx [some (.slst (ns.map W.int)), y1, y2, y3, y4, y5, none, none] h'
  | [], x1, x2, x3, x4, x5, h => ⟨x1, x2, x3, x4, x5, h, rfl⟩
  | i :: is, x1, x2, x3, x4, x5, h => by
    obtain ⟨y1, y2, y3, y4, y5, h1, e⟩ := turn1 ns i x1 x2 x3 x4 x5 h
    obtain ⟨z1, z2, z3, z4, z5, h2, ih⟩ := law_loop ns is y1 y2 y3 y4 y5 h1
    refine ⟨z1, z2, z3, z4, z5, h2, ?_⟩
    rw [List.map_cons, for_cons, Int.zero_add, e, turnS_nx, ih]
def Good (w : W) (h : List O) : Prop := (∃ s, w = .str s ∧ okS s) ∨ ∃ t, (∀ e, wType w (h ++ e) = some t) ∧ isiB t "str" = false
theorem Good.app {w : W} {h : List O} {o : O} (g : Good w h) : Good w (h ++ [o]) := by
  rcases g with g | ⟨t, a, b⟩
  · exact .inl g
  · exact .inr ⟨t, fun e => by rw [List.append_assoc]; exact a _, b⟩
theorem right_lc (k : Nat) (l0 l1 l2 l3 l4 : Option W) : ∀ (ws : List W) (n : Nat) (h : List O), n + ws.length < 900 → (∀ w ∈ ws, Good w h) →
    ∃ h', lcLoop (lcBody (L02.C (k + 3)).cn (.call "_law_right" (.cons (.var 5) .nil)) (.name 5) .none [l0, l1, l2, l3, l4, none, none, none]) [] n ws h = .ok (ws.map fun _ => .bl true) h'
  | [], n, h, _, _ => ⟨h, rfl⟩
  | w :: ws, n, h, hl, hg => by
    rw [List.length_cons] at hl
    have e : ∃ o, (L02.C (k + 3)).cn.call "_law_right" [w] h = .ok (.bl true) (h ++ [o]) := by
      rcases hg w List.mem_cons_self with ⟨s, rfl, os⟩ | ⟨t, a, b⟩
      · exact right_s k s h os
      · exact right_n k w t h (fun o => a [o]) (by have := a []; rwa [List.append_nil] at this) b
    obtain ⟨o, e⟩ := e
    obtain ⟨h', ih⟩ := right_lc k l0 l1 l2 l3 l4 ws (n + 1) (h ++ [o]) (by omega) fun x hx => (hg x (List.mem_cons_of_mem _ hx)).app
    have hn : decide (n < sizeLine) = true := decide_eq_true (by rw [sizeLine_eq]; omega)
    refine ⟨h', ?_⟩
    rw [lc_step]
    simp -dsimp [lcBody, e, ih, chk_of hn]
abbrev R1 : Ms := (.ret (.cmp .Eq (.lcomp (.call "_law_right" (.cons (.var 5) .nil)) (.name 5) (.val (.lst (.cons .non (.cons (.int 3) (.cons (.bl true) (.cons (.lst .nil) (.cons (.lst (.cons (.str "a") .nil)) (.cons (.tup (.cons (.str "a") .nil)) (.cons (.dct (.cons (.str "a") (.int 1) .nil)) (.cons (.str "abcdefghi") .nil)))))))))) .none [6, 5]) (.lrep (.lst (.cons (.bl true) .nil)) (.int 8))))
abbrev F1 : Ms := (.for (.name 1) (.range (.cons (.blt "max" (.cons (.int 2) (.cons (.blt "min" (.cons (.int 8) (.cons (.blt "len" (.cons (.var 0) .nil)) .nil))) .nil))) .nil)) B1)
theorem ret_ok (ns : List Int) (y1 y2 y3 y4 y5 : Option W) (h1 : List O) : ∃ h', evS (L02.C 7) R1 [some (.slst (ns.map W.int)), y1, y2, y3, y4, y5, none, none] h1 = .ok (.rt (.bl true)) [some (.slst (ns.map W.int)), y1, y2, y3, y4, y5, none, none] h' := by
  let h6 := h1 ++ [O.lst [], O.lst [.str "a"], O.dct (mergeW [] [(Sum.inr "a", .int 1)])]
  obtain ⟨h', lc⟩ := right_lc 4 (some (.slst (ns.map W.int))) y1 y2 y3 y4 [.non, .int 3, .bl true, .ref h1.length, .ref (h1.length + 1), .tup [.str "a"], .ref (h1.length + 1 + 1), .str "abcdefghi"] 0 h6 (by simp) (by
    have at_ : ∀ (j : Nat) (o : O) (e : List O), [O.lst [], O.lst [W.str "a"], O.dct (mergeW [] [(Sum.inr "a", W.int 1)])][j]? = some o → (h6 ++ e)[h1.length + j]? = some o := by
      intro j o e hj
      have hlt := (List.getElem?_eq_some_iff.mp hj).1
      show (h1 ++ [O.lst [], O.lst [W.str "a"], O.dct (mergeW [] [(Sum.inr "a", W.int 1)])] ++ e)[h1.length + j]? = some o
      rw [List.append_assoc, List.getElem?_append_right (by omega), Nat.add_sub_cancel_left, List.getElem?_append_left hlt]
      exact hj
    intro w hw
    simp only [List.mem_cons, List.not_mem_nil, or_false] at hw
    rcases hw with rfl | rfl | rfl | rfl | rfl | rfl | rfl | rfl
    · exact .inr ⟨"NoneType", fun _ => rfl, by decide⟩
    · exact .inr ⟨"int", fun _ => rfl, by decide⟩
    · exact .inr ⟨"bool", fun _ => rfl, by decide⟩
    · refine .inr ⟨"list", fun e => ?_, by decide⟩
      have := at_ 0 _ e rfl
      unfold wType; dsimp only; rw [show h1.length = h1.length + 0 from rfl, this]
    · refine .inr ⟨"list", fun e => ?_, by decide⟩
      have := at_ 1 _ e rfl
      unfold wType; dsimp only; rw [this]
    · exact .inr ⟨"tuple", fun _ => rfl, by decide⟩
    · refine .inr ⟨"dict", fun e => ?_, by decide⟩
      have := at_ 2 _ e rfl
      unfold wType; dsimp only; rw [show h1.length + 1 + 1 = h1.length + 2 from rfl, this]
    · exact .inl ⟨_, rfl, by decide +kernel, by decide +kernel⟩)
  have rp : (List.replicate 8 [W.bl true]).flatten = [.bl true, .bl true, .bl true, .bl true, .bl true, .bl true, .bl true, .bl true] := rfl
  simp only [h6, List.map_cons, List.map_nil] at lc
  have z1 : decide (1 ≤ sizeLine) = true := decide_eq_true (by rw [sizeLine_eq]; omega)
  have z8 : decide (8 ≤ sizeLine) = true := decide_eq_true (by rw [sizeLine_eq]; omega)
  refine ⟨h', ?_⟩
  simp -dsimp [wipeL, chk_of z1, chk_of z8, of_decide_eq_true z8, lc, rp, eq8, -MP.mx]
theorem cap_ok (n : Nat) : ∃ m : Nat, m < 900 ∧ (if (if (n : Int) < 8 then (n : Int) else 8) > 2 then (if (n : Int) < 8 then (n : Int) else 8) else 2) = (m : Int) := by
  refine ⟨if n < 8 then (if 2 < n then n else 2) else 8, by split <;> (try split) <;> omega, ?_⟩
  split <;> split <;> (try split) <;> (try split) <;> omega
abbrev RG : Mi := (.range (.cons (.blt "max" (.cons (.int 2) (.cons (.blt "min" (.cons (.int 8) (.cons (.blt "len" (.cons (.var 0) .nil)) .nil))) .nil))) .nil))
theorem hr_ok (m : Nat) (m9 : m < 900) : rngOk (m : Int) = true := by
  have e : (2 : Int) ^ 62 = 4611686018427387904 := by decide
  unfold rngOk
  rw [e]
  exact decide_eq_true ⟨by omega, by omega⟩
theorem mn2_ok (ns : List Int) (m : Nat) (em : (if (if (ns.length : Int) < 8 then (ns.length : Int) else 8) > 2 then (if (ns.length : Int) < 8 then (ns.length : Int) else 8) else 2) = (m : Int)) :  bltV "max" [.int 2, .int (if (ns.length : Int) < 8 then (ns.length : Int) else 8)] ([] : List O) = .ok (.int m) [] := by rw [mx, em]
abbrev LL (ns : List Int) : Lo := [some (.slst (ns.map W.int)), none, none, none, none, none, none, none]
theorem rg1 (ns : List Int) : (ev (L02.C 7).cn (.blt "len" (.cons (.var 0) .nil))).v (LL ns) [] = .ok (.int ns.length) [] := by simp
theorem rg2 (ns : List Int) : (ev (L02.C 7).cn (.blt "min" (.cons (.int 8) (.cons (.blt "len" (.cons (.var 0) .nil)) .nil)))).v (LL ns) [] = .ok (.int (if (ns.length : Int) < 8 then (ns.length : Int) else 8)) [] := by
  rw [show (ev (L02.C 7).cn (.blt "min" (.cons (.int 8) (.cons (.blt "len" (.cons (.var 0) .nil)) .nil)))).v (LL ns) [] = (((ev (L02.C 7).cn (.blt "len" (.cons (.var 0) .nil))).v (LL ns) []).bind fun y h => bltV "min" [.int 8, y] h) from rfl, rg1, R.bind_ok, mn]
theorem rg_ok (ns : List Int) (m : Nat) (m9 : m < 900) (em : (if (if (ns.length : Int) < 8 then (ns.length : Int) else 8) > 2 then (if (ns.length : Int) < 8 then (ns.length : Int) else 8) else 2) = (m : Int)) :
    evi (L02.C 7).cn RG (LL ns) [] = .ok (rngL 0 m, []) [] := by
  have hr := hr_ok m m9
  have mn2 := mn2_ok ns m em
  rw [show evi (L02.C 7).cn RG (LL ns) [] = ((((ev (L02.C 7).cn (.blt "min" (.cons (.int 8) (.cons (.blt "len" (.cons (.var 0) .nil)) .nil)))).v (LL ns) []).bind fun y h => bltV "max" [.int 2, y] h).bind fun y h => rngM [y] h) from rfl, rg2, R.bind_ok, mn2, R.bind_ok]
  show chk (rngOk (m : Int)) (.ok (rngL 0 (m : Int).toNat, []) []) = _
  rw [chk_of hr]
  rfl
theorem lp_ok (ns : List Int) (m : Nat) : ∃ y1 y2 y3 y4 y5 h1, forL (forBody (L02.C 7) (.name 1) B1) [] (rngL 0 m) [some (.slst (ns.map W.int)), none, none, none, none, none, none, none] [] = .ok .nx [some (.slst (ns.map W.int)), y1, y2, y3, y4, y5, none, none] h1 :=
  law_loop ns (List.range m) none none none none none []
theorem for_ok (ns : List Int) (hns : ns.length ≤ 63) : ∃ y1 y2 y3 y4 y5 h1, evS (L02.C 7) F1 [some (.slst (ns.map W.int)), none, none, none, none, none, none, none] [] = .ok .nx [some (.slst (ns.map W.int)), y1, y2, y3, y4, y5, none, none] h1 := by
  obtain ⟨m, m9, em⟩ := cap_ok ns.length
  obtain ⟨y1, y2, y3, y4, y5, h1, lp⟩ := lp_ok ns m
  refine ⟨y1, y2, y3, y4, y5, h1, ?_⟩
  show liftE _ (evi (L02.C 7).cn RG [some (.slst (ns.map W.int)), none, none, none, none, none, none, none] []) (fun r h => forL (forBody (L02.C 7) (.name 1) B1) r.2 r.1 [some (.slst (ns.map W.int)), none, none, none, none, none, none, none] h) = _
  rw [rg_ok ns m m9 em]
  exact lp
theorem d_eq : d_law.body = .cons F1 (.cons R1 .nil) := rfl
theorem law_true : ∀ ns : List Int, ns.length ≤ 63 → ∃ h', MP.runF (L02.C 7) L02.d_law [.slst (ns.map MP.W.int)] [] = .ok (.bl true) h' := by
  intro ns hns
  obtain ⟨y1, y2, y3, y4, y5, h1, e1⟩ := for_ok ns hns
  obtain ⟨h', e2⟩ := ret_ok ns y1 y2 y3 y4 y5 h1
  refine ⟨h', ?_⟩
  unfold runF
  rw [d_eq, if_pos (show [W.slst (List.map W.int ns)].length = d_law.ps.length from rfl)]
  show endF (seqS (evS (L02.C 7) F1 [some (.slst (ns.map W.int)), none, none, none, none, none, none, none] []) (evS (L02.C 7) R1)) = _
  rw [e1]
  show endF (evS (L02.C 7) R1 [some (.slst (ns.map W.int)), y1, y2, y3, y4, y5, none, none] h1) = _
  rw [e2]
  rfl
end L02
set_option maxRecDepth 100000
set_option maxHeartbeats 4000000
open PySem PySem.W PyProof.Rows
set_option maxHeartbeats 0 in
theorem PySem.Challenge.cw_seenchoices_k02_words_and_names_holds : PySem.Challenge.rw_seenchoices_k02_words_and_names.Holds := by
  w_on; o_law; k_head; (case hw => w_witness2)
  k_fill
  refine MP.walkG (l := PySem.Challenge.rw_seenchoices_k02_words_and_names) (n := 63) (k := 8) (x := "_law_script") (m := MP.runF (L02.C 7) L02.d_law) rfl (by decide) rfl ⟨rfl, by decide, by decide⟩ (fun w h Y => PySem.W.kIn_of Y) ?F L02.law_true
  case F =>
    intro w mg fa h KX G hmg
    refine' L02.all_mk KX G hmg ?a0 ?l0 ?c0 ?k0 ?a1 ?l1 ?c1 ?k1 ?a2 ?l2 ?c2 ?k2 ?a3 ?l3 ?c3 ?k3 ?a4 ?l4 ?c4 ?k4 ?a5 ?l5 ?c5 ?k5 ?a6 ?l6 ?c6 ?k6 ?a7 ?l7 ?c7 ?k7 ?a8 ?l8 ?c8 ?k8 ?a9 ?l9 ?c9 ?k9 ?a10 ?l10 ?c10 ?k10 ?a11 ?l11 ?c11 ?k11 ?a12 ?l12 ?c12 ?k12 ?a13 ?l13 ?c13 ?k13 ?gl0x ?gl1x ?gl2x ?hb
    (case a0 => k_is)
    (case l0 => k_is)
    (case c0 => k_is)
    (case k0 => k_is)
    (case a1 => k_is)
    (case l1 => k_is)
    (case c1 => k_is)
    (case k1 => k_is)
    (case a2 => k_is)
    (case l2 => k_is)
    (case c2 => k_is)
    (case k2 => k_is)
    (case a3 => k_is)
    (case l3 => k_is)
    (case c3 => k_is)
    (case k3 => k_is)
    (case a4 => k_is)
    (case l4 => k_is)
    (case c4 => k_is)
    (case k4 => k_is)
    (case a5 => k_is)
    (case l5 => k_is)
    (case c5 => k_is)
    (case k5 => k_is)
    (case a6 => k_is)
    (case l6 => k_is)
    (case c6 => k_is)
    (case k6 => k_is)
    (case a7 => k_is)
    (case l7 => k_is)
    (case c7 => k_is)
    (case k7 => k_is)
    (case a8 => k_is)
    (case l8 => k_is)
    (case c8 => k_is)
    (case k8 => k_is)
    (case a9 => k_is)
    (case l9 => k_is)
    (case c9 => k_is)
    (case k9 => k_is)
    (case a10 => k_is)
    (case l10 => k_is)
    (case c10 => k_is)
    (case k10 => k_is)
    (case a11 => k_is)
    (case l11 => k_is)
    (case c11 => k_is)
    (case k11 => k_is)
    (case a12 => k_is)
    (case l12 => k_is)
    (case c12 => k_is)
    (case k12 => k_is)
    (case a13 => k_is)
    (case l13 => k_is)
    (case c13 => k_is)
    (case k13 => k_is)
    (case gl0x => k_is)
    (case gl1x => k_is)
    (case gl2x => k_is)
    case hb =>
      intro x hx
      simp only [MP.bltNames, List.mem_cons, List.not_mem_nil, or_false] at hx
      rcases hx with rfl | rfl | rfl | rfl | rfl | rfl | rfl | rfl | rfl | rfl | rfl | rfl | rfl | rfl | rfl | rfl | rfl | rfl | rfl | rfl | rfl <;> k_is
