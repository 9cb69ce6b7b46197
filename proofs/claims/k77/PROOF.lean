import PyProof.Rows.All
import Wide.All
import OpenK.AllK
import Wide.FinOn
import HandS.ForMost
import HandS.Set
import HandS.SetFor
import HandS.SortRule
import HandS.SortInts
import HandS.Strs
import HandS.ForExc
import HandS.ExcInit
import HandS.ExcField
import HandS.ExcIs
import HandS.TupAny
import HandS.TupMul
import HandS.Conv
import HandS.Defaults
import HandS.HeadWalk
import HandS.TryMany
import HandS.IsInst
import HandS.Style
import HandS.Dict
import HandS.NoneIn
import HandS.Iter
import HandS.Walk
import HandS.Comp
import HandS.WordsExc
import HandS.DictComp
import HandS.ListItems
import PyProof.ListRange
import PyProof.Rows.Range3
import HandS.TupLe
import HandS.Small
import HandS.HeadHook1
import HandS.HeadHook2
import HandS.Head0
import HandS.Head1
import HandS.Head2
import HandS.HeadEnd
import PySem.Challenge.RW_intervalbench_k77_grouped_rounded_moved
section
set_option linter.all false
/-! MiniPy: values, the small language, its interpreter. Own text. -/
namespace MP
open PySem (Str PyData)

/-- values: tuples and exceptions are values; ref r: an object of the own heap -/
inductive W where
  | non | bl (b : Bool) | int (i : Int) | str (x : Str) | tup (xs : List W) | ref (r : Nat) | fn (f : Nat) | cls (c : Nat) | exn (c : Nat) (vs : List W)
  deriving Inhabited

mutual
def W.beq : W → W → Bool
  | .non, .non => true
  | .bl a, .bl b => a == b
  | .int a, .int b => decide (a = b)
  | .str a, .str b => decide (a = b)
  | .tup a, .tup b => W.beqs a b
  | .ref a, .ref b => Nat.beq a b
  | .fn a, .fn b => Nat.beq a b
  | .cls a, .cls b => Nat.beq a b
  | .exn c a, .exn d b => Nat.beq c d && W.beqs a b
  | _, _ => false
def W.beqs : List W → List W → Bool
  | [], [] => true
  | a :: r, b :: s => W.beq a b && W.beqs r s
  | _, _ => false
end
mutual
theorem W.beq_eq : ∀ {a b : W}, W.beq a b = true → a = b
  | .non, b, h => by cases b <;> first | rfl | simp [W.beq] at h
  | .bl x, b, h => by cases b <;> simp [W.beq] at h; rw [h]
  | .int x, b, h => by cases b <;> simp [W.beq] at h; rw [h]
  | .str x, b, h => by cases b <;> simp [W.beq] at h; rw [h]
  | .ref x, b, h => by cases b <;> simp [W.beq] at h; rw [h]
  | .fn x, b, h => by cases b <;> simp [W.beq] at h; rw [h]
  | .cls x, b, h => by cases b <;> simp [W.beq] at h; rw [h]
  | .tup x, b, h => by cases b <;> simp [W.beq] at h; rw [W.beqs_eq h]
  | .exn c x, b, h => by cases b <;> simp [W.beq] at h; rw [h.1, W.beqs_eq h.2]
theorem W.beqs_eq : ∀ {a b : List W}, W.beqs a b = true → a = b
  | [], [], _ => rfl
  | [], _ :: _, h => by simp [W.beqs] at h
  | _ :: _, [], h => by simp [W.beqs] at h
  | a :: r, b :: s, h => by simp [W.beqs] at h; rw [W.beq_eq h.1, W.beqs_eq h.2]
end
mutual
theorem W.beq_rfl : ∀ a : W, W.beq a a = true
  | .non => rfl
  | .bl x => by simp [W.beq]
  | .int x => by simp [W.beq]
  | .str x => by simp [W.beq]
  | .ref x => by simp [W.beq]
  | .fn x => by simp [W.beq]
  | .cls x => by simp [W.beq]
  | .tup x => by simp [W.beq, W.beqs_rfl x]
  | .exn c x => by simp [W.beq, W.beqs_rfl x]
theorem W.beqs_rfl : ∀ a : List W, W.beqs a a = true
  | [] => rfl
  | a :: r => by simp [W.beqs, W.beq_rfl a, W.beqs_rfl r]
end
instance : DecidableEq W := fun a b => if h : W.beq a b = true then isTrue (W.beq_eq h) else isFalse fun e => h (e ▸ W.beq_rfl a)

inductive Cell where
  | lst (xs : List W) | frz (xs : List W) | dct (kvs : List (W × W)) | fdc (kvs : List (W × W)) | ins (c : Nat) (fs : List (Nat × W))
  deriving Inhabited, DecidableEq

abbrev Hs := List Cell
abbrev Env := List (Option W)

inductive R (α : Type) where
  | ok (v : α) (h : Hs)
  | raise (c : Nat) (vs : List W) (h : Hs)
  | stuck

def R.bind {α β : Type} (r : R α) (f : α → Hs → R β) : R β := match r with
  | .ok v h => f v h
  | .raise c vs h => .raise c vs h
  | .stuck => .stuck
theorem bind_ok {α β : Type} {v : α} {h : Hs} {f : α → Hs → R β} : (R.ok v h).bind f = f v h := rfl
theorem bind_raise {α β : Type} {c : Nat} {vs : List W} {h : Hs} {f : α → Hs → R β} : (R.raise c vs h : R α).bind f = .raise c vs h := rfl
theorem bind_stuck {α β : Type} {f : α → Hs → R β} : (R.stuck : R α).bind f = .stuck := rfl
def R.opt {α : Type} (h : Hs) : Option α → R α
  | some v => .ok v h
  | none => .stuck

inductive Op2 where | add | sub | mul | fdiv | mod | pow | shl | shr | band | bor | bxor
  deriving DecidableEq
inductive Cm where | lt | le | gt | ge | eq | ne
  deriving DecidableEq
/-- what isinstance asks -/
inductive Ty where | int | bool | str | list | tuple | dict | lt | cls (c : Nat) | verr
  deriving DecidableEq
inductive Bi where | len | abs | int | min2 | max2 | isi (t : Ty) | tuple | str
  deriving DecidableEq
/-- methods of built-in types -/
inductive Bm where | append | extend | pop | popAt | index | insert | remove | get | get2 | setdefault | update
  deriving DecidableEq
/-- what a list that is made on the spot is used for -/
inductive Lb where | all | any | len | sum | min | max | tuple | dict | lenSet
  deriving DecidableEq

inductive Tg where
  | name (i : Nat)
  | nil
  | cons (t : Tg) (r : Tg)

mutual
inductive Ex where
  | var (i : Nat) | non | bl (b : Bool) | int (i : Int) | str (x : Str) | glob (g : Nat)
  | op (o : Op2) (a b : Ex) | neg (a : Ex)
  | cmp (c : Cm) (a b : Ex) | chain (a : Ex) (c : Cm) (b : Ex) (d : Cm) (e : Ex) | chain3 (a : Ex) (c : Cm) (b : Ex) (d : Cm) (e : Ex) (k : Cm) (f : Ex)
  | isC (pos : Bool) (k : Option Bool) (a : Ex)
  | and (a b : Ex) | or (a b : Ex) | not (a : Ex) | ite (c a b : Ex)
  | tup (es : Exs)
  | idx (a i : Ex) | slc (a : Ex) (lo hi : Cnd)
  | fld (a : Ex) (f : Nat)
  | call (f : Nat) (es : Exs) | callK (f : Nat) (perm : List Nat) (es : Exs) | callD (f : Nat) (ds : List Int) (es : Exs)
  | new (c : Nat) (es : Exs) | newK (c : Nat) (perm : List Nat) (es : Exs)
  | meth (a : Ex) (m : Nat) (es : Exs) | methK (a : Ex) (m : Nat) (perm : List Nat) (es : Exs)
  | bi (b : Bi) (es : Exs) | bm (b : Bm) (a : Ex) (es : Exs)
  | lb (b : Lb) (s : Sq)
  | lst (l : Le)
  | eqS (pos : Bool) (a b : Sq)
  | inS (pos : Bool) (a : Ex) (s : Sq)
  | dct0
  | dcomp (k v : Ex) (t : Tg) (s : Sr) (c : Cnd) (ws : List Nat)
inductive Exs where
  | nil | cons (e : Ex) (es : Exs)
/-- a sequence to be read: an object, or a list that is made on the spot -/
inductive Sq where
  | val (e : Ex) | fresh (l : Le)
/-- what is walked -/
inductive Sr where
  | seq (s : Sq) | rng (es : Exs) | enum (s : Sq) | zip (s t : Sq) | items (e : Ex) | values (e : Ex)
inductive Cnd where
  | none | some (e : Ex)
inductive Le where
  | disp (es : Exs)
  | comp (e : Ex) (t : Tg) (s : Sr) (c : Cnd) (ws : List Nat)
  | ofS (s : Sr)
  | lrng (es : Exs)
  | litems (e : Ex)
  | sorted (s : Sq) | sortedSet (s : Sq)
  | cat (a b : Sq) | rep (a : Sq) (k : Ex)
end

/-- what a handler's `return [..]` holds -/
inductive HE where
  | str (x : Str) | fld (k : Nat) | isA (ts : List Ty)
structure Hd where
  c : Nat
  i : Nat
  out : List HE

mutual
inductive St where
  | asg (t : Tg) (e : Ex)
  | asgT (is : List Nat) (es : Exs)
  | fldT (is : List Nat) (fs : List Nat) (es : Exs)
  | fldSet (o : Ex) (f : Nat) (e : Ex)
  | idxSet (o i e : Ex)
  | expr (e : Ex) | ret (e : Ex) | retN | pass | brk | cont
  | raise (c : Nat) (es : Exs)
  | ite (c : Ex) (a b : Sts)
  | for (t : Tg) (s : Sr) (b : Sts)
  | while (c : Ex) (b : Sts)
  | try (b : Sts) (hs : List Hd)
inductive Sts where
  | nil | cons (s : St) (r : Sts)
end

/-! ## The tables -/
structure Tab where
  glob : Nat → Option W
  meth : Nat → Nat → Option Nat
  init : Nat → Option Nat
  eqm : Nat → Option Nat
  exf : Nat → Option (List Nat)
  sub : Nat → Nat → Bool
  plain : Nat → Bool
structure Fn where
  np : Nat
  ns : Nat
  body : Sts
structure Pg where
  T : Tab
  fns : List Fn
  wf : Nat

/-! ## Values -/
def SZ : Nat := 16777216
mutual
def W.bel (n : Nat) : W → Bool
  | .ref r => decide (r < n)
  | .tup xs => W.bels n xs
  | .exn _ xs => W.bels n xs
  | _ => true
def W.bels (n : Nat) : List W → Bool
  | [] => true
  | x :: xs => x.bel n && W.bels n xs
end
def Cell.bel (n : Nat) : Cell → Bool
  | .lst xs => W.bels n xs
  | .frz xs => W.bels n xs
  | .dct kvs => kvs.all fun p => p.1.bel n && p.2.bel n
  | .fdc kvs => kvs.all fun p => p.1.bel n && p.2.bel n
  | .ins _ fs => fs.all fun p => p.2.bel n
def Closed (n : Nat) (h : Hs) : Bool := h.all (·.bel n)


def deref : Nat → Hs → W → Option PyData
  | 0, _, _ => none
  | _ + 1, _, .non => some .none
  | _ + 1, _, .bl b => some (.bool b)
  | _ + 1, _, .int i => some (.int i)
  | _ + 1, _, .str x => if PyData.strOk x then some (.str x) else none
  | n + 1, h, .tup xs => (xs.mapM (deref n h)).map .tuple
  | n + 1, h, .ref r => match h[r]? with
    | some (.lst xs) => (xs.mapM (deref n h)).map .list
    | some (.frz xs) => (xs.mapM (deref n h)).map .list
    | _ => none
  | _ + 1, _, _ => none
def eqE (h : Hs) (a b : W) : Option Bool := match deref 60 h a, deref 60 h b with
  | some d, some e => some (PyData.eqv d e)
  | _, _ => none
def eqL (h : Hs) (a b : List W) : Option Bool := match a.mapM (deref 59 h), b.mapM (deref 59 h) with
  | some d, some e => some (PyData.eqvAll d e)
  | _, _ => none

/-- a flat value: None, a bool, an int, a text -/
def W.flat : W → Bool
  | .non | .bl _ | .int _ | .str _ => true
  | _ => false
def eqF : W → W → Bool
  | .non, .non => true
  | .bl a, .bl b => a == b
  | .bl a, .int b => (if a then 1 else 0) == b
  | .int a, .bl b => a == (if b then 1 else 0)
  | .int a, .int b => a == b
  | .str a, .str b => a == b
  | _, _ => false
/-- a key: an int or a text -/
def W.key : W → Bool
  | .int _ | .str _ => true
  | _ => false
def dGet (k : W) : List (W × W) → Option W
  | [] => none
  | (a, v) :: r => if a = k then some v else dGet k r
def dPut (k v : W) (kvs : List (W × W)) : List (W × W) :=
  if (kvs.any fun p => decide (p.1 = k)) = true then kvs.map (fun p => if p.1 = k then (p.1, v) else p) else kvs ++ [(k, v)]
def fPut (f : Nat) (w : W) : List (Nat × W) → List (Nat × W)
  | [] => [(f, w)]
  | (g, u) :: r => if g = f then (g, w) :: r else (g, u) :: fPut f w r
def sliceL {α : Type} (lo hi : Option Int) (xs : List α) : List α :=
  (xs.drop (HT.sIx xs.length 0 lo)).take (HT.sIx xs.length xs.length hi - HT.sIx xs.length 0 lo)
def okMul (a b : Int) : Bool := decide (a.natAbs < 2 ^ 64) || decide (b.natAbs < 2 ^ 64)
def okIx (i : Int) : Bool := decide (-(2 ^ 62) ≤ i ∧ i < 2 ^ 62)

section
variable (h : Hs)
def op2 : Op2 → W → W → R W
  | .add, .int a, .int b => .ok (.int (a + b)) h
  | .add, .str a, .str b => if a.length + b.length ≤ SZ then .ok (.str (a ++ b)) h else .stuck
  | .add, .tup a, .tup b => if a.length + b.length ≤ SZ then .ok (.tup (a ++ b)) h else .stuck
  | .add, .ref a, .ref b => match h[a]?, h[b]? with
    | some (.lst xs), some (.lst ys) => if xs.length + ys.length ≤ SZ then .ok (.ref h.length) (h ++ [.lst (xs ++ ys)]) else .stuck
    | _, _ => .stuck
  | .sub, .int a, .int b => .ok (.int (a - b)) h
  | .mul, .int a, .int b => if okMul a b then .ok (.int (a * b)) h else .stuck
  | .mul, .tup a, .int k => if a ≠ [] ∧ 2 ≤ k ∧ k ≤ 1000 ∧ a.length ≤ 1000 then .ok (.tup (List.replicate k.toNat a).flatten) h else .stuck
  | .fdiv, .int a, .int b => if 0 < b ∧ b < 1073741824 then .ok (.int (a / b)) h else .stuck
  | .mod, .int a, .int b => if 0 < b then .ok (.int (a % b)) h else .stuck
  | .pow, .int a, .int b => if 0 ≤ b ∧ b ≤ 1000000 ∧ a.natAbs < 2 ^ 64 then .ok (.int (a ^ b.toNat)) h else .stuck
  | .shl, .int a, .int b => if 0 ≤ b ∧ b ≤ 1000000 ∧ a.natAbs < 2 ^ 64 then .ok (.int (a * 2 ^ b.toNat)) h else .stuck
  | .shr, .int a, .int b => if 0 ≤ b then .ok (.int (a / 2 ^ b.toNat)) h else .stuck
  | .band, .int a, .int b => .ok (.int (PySem.Builtin.bitAnd a b)) h
  | .bor, .int a, .int b => .ok (.int (PySem.Builtin.bitOr a b)) h
  | .bxor, .int a, .int b => .ok (.int (PySem.Builtin.bitXor a b)) h
  | _, _, _ => .stuck
def cmp2 : Cm → W → W → R W
  | .lt, .int a, .int b => .ok (.bl (decide (a < b))) h
  | .le, .int a, .int b => .ok (.bl (decide (a ≤ b))) h
  | .gt, .int a, .int b => .ok (.bl (decide (b < a))) h
  | .ge, .int a, .int b => .ok (.bl (decide (b ≤ a))) h
  | .eq, a, b => match eqE h a b with | some c => .ok (.bl c) h | none => .stuck
  | .ne, a, b => match eqE h a b with | some c => .ok (.bl (!c)) h | none => .stuck
  | _, _, _ => .stuck
def isTy (T : Tab) : Ty → W → Option Bool
  | _, .fn _ => none
  | _, .cls _ => none
  | t, .exn c _ => match t with
    | .cls d => some (T.sub c d)
    | .verr => some true
    | _ => some false
  | t, .non => some (match t with | _ => false)
  | t, .bl _ => some (match t with | .int | .bool => true | _ => false)
  | t, .int _ => some (match t with | .int => true | _ => false)
  | t, .str _ => some (match t with | .str => true | _ => false)
  | t, .tup _ => some (match t with | .tuple | .lt => true | _ => false)
  | t, .ref r => match h[r]? with
    | some (.lst _) => some (match t with | .list | .lt => true | _ => false)
    | some (.frz _) => some (match t with | .list | .lt => true | _ => false)
    | some (.dct _) => some (match t with | .dict => true | _ => false)
    | some (.fdc _) => some (match t with | .dict => true | _ => false)
    | some (.ins c _) => if T.plain c = true then some (match t with | .cls d => T.sub c d | _ => false) else none
    | none => none
/-- an instance whose class has its own == (!=: of two of one class) -/
def ownEq (T : Tab) (c : Cm) : W → W → Option Nat
  | .ref r, y => match h[r]? with
    | some (.ins k _) => (match c with
      | .eq => (match y with
        | .fn _ => none
        | .cls _ => none
        | .ref q => (match h[q]? with
          | some (.ins j _) => if T.plain j = true then T.eqm k else none
          | some _ => T.eqm k
          | none => none)
        | _ => T.eqm k)
      | .ne => (match y with
        | .ref q => (match h[q]? with
          | some (.ins j _) => if j = k ∧ T.plain j = true then T.eqm k else none
          | _ => none)
        | _ => none)
      | _ => none)
    | _ => none
  | _, _ => none
def bi1 (T : Tab) : Bi → List W → R W
  | .len, [.str x] => if x.length ≤ SZ then .ok (.int x.length) h else .stuck
  | .len, [.tup xs] => .ok (.int xs.length) h
  | .len, [.ref r] => match h[r]? with
    | some (.lst xs) => .ok (.int xs.length) h
    | some (.frz xs) => .ok (.int xs.length) h
    | some (.dct kvs) => .ok (.int kvs.length) h
    | _ => .stuck
  | .abs, [.int i] => .ok (.int (if i < 0 then -i else i)) h
  | .int, [.int i] => .ok (.int i) h
  | .int, [.bl b] => .ok (.int (if b then 1 else 0)) h
  | .min2, [.int i, .int j] => .ok (.int (if j < i then j else i)) h
  | .max2, [.int i, .int j] => .ok (.int (if j > i then j else i)) h
  | .isi t, [w] => R.opt h ((isTy h T t w).map .bl)
  | .tuple, [.tup xs] => .ok (.tup xs) h
  | .tuple, [.ref r] => match h[r]? with
    | some (.lst xs) => .ok (.tup xs) h
    | some (.frz xs) => .ok (.tup xs) h
    | _ => .stuck
  | _, _ => .stuck
def idx2 : W → W → R W
  | .tup xs, .int i => R.opt h (L2.atI xs i)
  | .ref r, w => match h[r]? with
    | some (.lst xs) => (match w with
      | .int i => R.opt h (L2.atI xs i)
      | _ => .stuck)
    | some (.frz xs) => (match w with
      | .int i => R.opt h (L2.atI xs i)
      | _ => .stuck)
    | some (.dct kvs) => if w.key then R.opt h (dGet w kvs) else .stuck
    | some (.fdc kvs) => if w.key then R.opt h (dGet w kvs) else .stuck
    | _ => .stuck
  | .str x, .int i => if x.length ≤ SZ then R.opt h ((L2.atI x.cps.toList i).map fun c => .str ⟨#[c]⟩) else .stuck
  | _, _ => .stuck
def inL (x : W) (ys : List W) : Option Bool := if x.flat && ys.all W.flat then some (ys.any fun y => eqF y x) else none
def in2 (x : W) : W → Option Bool
  | .tup ys => inL x ys
  | .ref r => match h[r]? with
    | some (.lst ys) => inL x ys
    | some (.frz ys) => inL x ys
    | some (.dct kvs) => if x.key then some (dGet x kvs).isSome else none
    | some (.fdc kvs) => if x.key then some (dGet x kvs).isSome else none
    | _ => none
  | _ => none
def slc2 (w : W) (a b : Option Int) : R W := match w with
    | .tup xs => .ok (.tup (sliceL a b xs)) h
    | .str x => if x.length ≤ SZ then .ok (.str (L2.cutS x a b)) h else .stuck
    | .ref r => (match h[r]? with
      | some (.lst xs) => .ok (.ref h.length) (h ++ [.lst (sliceL a b xs)])
      | some (.frz xs) => .ok (.ref h.length) (h ++ [.lst (sliceL a b xs)])
      | _ => .stuck)
    | _ => .stuck
/-- what a built-in method is asked of -/
def bmK : Bm → W → Bool
  | b, .ref r => match h[r]? with
    | some (.lst _) => (match b with | .append | .pop | .popAt | .index => true | _ => false)
    | some (.dct _) => (match b with | .get | .get2 => true | _ => false)
    | _ => false
  | _, _ => false
def bm2 : Bm → W → List W → R W
  | .append, .ref r, [w] => match h[r]? with
    | some (.lst xs) => if xs.length < SZ then .ok .non (h.set r (.lst (xs ++ [w]))) else .stuck
    | _ => .stuck
  | .pop, .ref r, [] => match h[r]? with
    | some (.lst xs) => (match xs[xs.length - 1]? with | some y => .ok y (h.set r (.lst xs.dropLast)) | none => .stuck)
    | _ => .stuck
  | .popAt, .ref r, [.int i] => match h[r]? with
    | some (.lst xs) => if okIx i then (match L2.ixN xs.length i with
      | some k => (match xs[k]? with | some y => .ok y (h.set r (.lst (xs.eraseIdx k))) | none => .stuck)
      | none => .stuck) else .stuck
    | _ => .stuck
  | .index, .ref r, [w] => match h[r]? with
    | some (.lst xs) => if w.flat && xs.all W.flat then (match xs.findIdx? (fun y => eqF y w) with
      | some j => .ok (.int j) h
      | none => .stuck) else .stuck
    | _ => .stuck
  | .get, .ref r, [k] => match h[r]? with
    | some (.dct kvs) => if k.key then .ok ((dGet k kvs).getD .non) h else .stuck
    | _ => .stuck
  | .get2, .ref r, [k, d] => match h[r]? with
    | some (.dct kvs) => if k.key then .ok ((dGet k kvs).getD d) h else .stuck
    | _ => .stuck
  | _, _, _ => .stuck
end

def allB : List W → Option (List Bool)
  | [] => some []
  | .bl b :: r => (allB r).map (b :: ·)
  | _ => none
def allI : List W → Option (List Int)
  | [] => some []
  | .int b :: r => (allI r).map (b :: ·)
  | _ => none
def insI (x : Int) : List Int → List Int
  | [] => [x]
  | y :: r => if x ≤ y then x :: y :: r else y :: insI x r
def sortI : List Int → List Int
  | [] => []
  | x :: r => insI x (sortI r)
def insU (x : Int) : List Int → List Int
  | [] => [x]
  | y :: r => if x < y then x :: y :: r else if x = y then y :: r else y :: insU x r
def sortU : List Int → List Int
  | [] => []
  | x :: r => insU x (sortU r)
def foldMax : Int → List Int → Int
  | m, [] => m
  | m, x :: r => foldMax (if x > m then x else m) r
def foldMin : Int → List Int → Int
  | m, [] => m
  | m, x :: r => foldMin (if x < m then x else m) r
def pairsD : List W → List (W × W) → Option (List (W × W))
  | [], acc => some acc
  | .tup [k, v] :: r, acc => if k.key then pairsD r (dPut k v acc) else none
  | _, _ => none
def lb1 (h : Hs) : Lb → List W → R W
  | .all, xs => R.opt h ((allB xs).map fun bs => .bl (bs.all id))
  | .any, xs => R.opt h ((allB xs).map fun bs => .bl (bs.any id))
  | .len, xs => .ok (.int xs.length) h
  | .sum, xs => R.opt h ((allI xs).map fun ns => .int ns.sum)
  | .max, xs => match allI xs with
    | some (x :: r) => .ok (.int (foldMax x r)) h
    | _ => .stuck
  | .min, xs => match allI xs with
    | some (x :: r) => .ok (.int (foldMin x r)) h
    | _ => .stuck
  | .tuple, xs => .ok (.tup xs) h
  | .dict, xs => match pairsD xs [] with
    | some kvs => .ok (.ref h.length) (h ++ [.dct kvs])
    | none => .stuck
  | .lenSet, _ => .stuck

/-- a sequence that is read: its items; where it stands, if it may be changed -/
structure Sv where
  items : List W
  g : Option (Nat × Cell)
  l : Bool
def gOk (g : Option (Nat × Cell)) (h : Hs) : Bool := match g with
  | none => true
  | some (r, c) => decide (h[r]? = some c)
def seqOf (h : Hs) : W → R Sv
  | .tup xs => .ok ⟨xs, none, false⟩ h
  | .str x => .ok ⟨x.cps.toList.map fun c => .str ⟨#[c]⟩, none, false⟩ h
  | .ref r => match h[r]? with
    | some (.lst xs) => .ok ⟨xs, some (r, .lst xs), true⟩ h
    | some (.frz xs) => .ok ⟨xs, some (r, .frz xs), true⟩ h
    | some (.fdc kvs) => .ok ⟨kvs.map (·.1), some (r, .fdc kvs), false⟩ h
    | _ => .stuck
  | _ => .stuck
def itemsOf (b : Bool) (h : Hs) : W → R Sv
  | .ref r => match h[r]? with
    | some (.fdc kvs) => .ok ⟨if b then kvs.map fun p => .tup [p.1, p.2] else kvs.map (·.2), some (r, .fdc kvs), false⟩ h
    | _ => .stuck
  | _ => .stuck
/-- a list that may be named again (not the script) -/
def Sv.lst (v : Sv) : Bool := match v.g with
  | none => v.l
  | some (_, .lst _) => true
  | _ => false
def rngL (lo : Int) : Nat → List W
  | 0 => []
  | n + 1 => .int lo :: rngL (lo + 1) n
def rngS (lo st : Int) : Nat → List W
  | 0 => []
  | n + 1 => .int lo :: rngS (lo + st) st n
def rngOf (h : Hs) : List W → R Sv
  | [.int n] => if okIx n ∧ n.toNat ≤ SZ then .ok ⟨rngL 0 n.toNat, none, false⟩ h else .stuck
  | [.int a, .int b] => if okIx a ∧ okIx b ∧ (b - a).toNat ≤ SZ then .ok ⟨rngL a (b - a).toNat, none, false⟩ h else .stuck
  | [.int a, .int b, .int c] => if 0 < c ∧ c < 1073741824 ∧ PySem.Builtin.Range.small a b c = true ∧ 0 ≤ PySem.Builtin.Range.rangeSize a b c ∧ PySem.Builtin.Range.rangeSize a b c ≤ 16777216 then .ok ⟨rngS a c (PySem.Builtin.Range.rangeSize a b c).toNat, none, false⟩ h else .stuck
  | _ => .stuck
def enumL (i : Int) : List W → List W
  | [] => []
  | x :: r => .tup [.int i, x] :: enumL (i + 1) r
def zipL : List W → List W → List W
  | x :: r, y :: s => .tup [x, y] :: zipL r s
  | _, _ => []
/-- the items of a tuple or a list that is unpacked -/
def unTup (h : Hs) : W → Option (List W)
  | .tup ws => some ws
  | .ref r => match h[r]? with
    | some (.lst xs) => some xs
    | _ => none
  | _ => none
def asgTg (h : Hs) : Tg → W → Env → Option Env
  | .name i, w, env => if i < env.length then some (env.set i (some w)) else none
  | .nil, w, env => match unTup h w with
    | some [] => some env
    | _ => none
  | .cons t r, w, env => match unTup h w with
    | some (w :: ws) => (asgTg h t w env).bind (asgTg h r (.tup ws))
    | _ => none
def wipeE (env : Env) : List Nat → Env
  | [] => env
  | v :: vs => (wipeE env vs).set v none
def compGo (g : Option (Nat × Cell)) (f : W → Hs → R (List W)) : List W → Hs → R (List W)
  | [], h => if gOk g h then .ok [] h else .stuck
  | x :: xs, h => if gOk g h then (f x h).bind fun ys h1 => (compGo g f xs h1).bind fun zs h2 => .ok (ys ++ zs) h2 else .stuck
def noRaise {α : Type} : R α → R α
  | .ok v h => .ok v h
  | _ => .stuck
def truth (h : Hs) : W → R Bool
  | .bl b => .ok b h
  | _ => .stuck

/-- a dict that is walked by its name is locked meanwhile -/
def lockOf (env : Env) (h : Hs) : Sr → Option (Nat × List (W × W))
  | .seq (.val (.var i)) => match env[i]? with
    | some (some (.ref r)) => (match h[r]? with | some (.dct kvs) => some (r, kvs) | _ => none)
    | _ => none
  | .items (.var i) => match env[i]? with
    | some (some (.ref r)) => (match h[r]? with | some (.dct kvs) => some (r, kvs) | _ => none)
    | _ => none
  | .values (.var i) => match env[i]? with
    | some (some (.ref r)) => (match h[r]? with | some (.dct kvs) => some (r, kvs) | _ => none)
    | _ => none
  | _ => none
def locked {α : Type} (l : Option (Nat × List (W × W))) (f : Hs → R α) (h : Hs) : R α := match l with
  | none => f h
  | some (r, kvs) => (noRaise (f (h.set r (.fdc kvs)))).bind fun v h2 => if h2[r]? = some (.fdc kvs) then .ok v (h2.set r (.dct kvs)) else .stuck
def fitL (xs : List W) : Bool := decide (xs.length ≤ SZ)

section
variable (T : Tab) (cal : Nat → List W → Hs → R W)
mutual
def evE : Ex → Env → Hs → R W
  | .var i, env, h => match env[i]? with
    | some (some w) => .ok w h
    | _ => .stuck
  | .non, _, h => .ok .non h
  | .bl b, _, h => .ok (.bl b) h
  | .int i, _, h => .ok (.int i) h
  | .str x, _, h => .ok (.str x) h
  | .glob g, _, h => R.opt h (T.glob g)
  | .op o a b, env, h => (evE a env h).bind fun x h1 => (evE b env h1).bind fun y h2 => op2 h2 o x y
  | .neg a, env, h => (evE a env h).bind fun x h1 => match x with
    | .int i => .ok (.int (-i)) h1
    | _ => .stuck
  | .cmp c a b, env, h => (evE a env h).bind fun x h1 => (evE b env h1).bind fun y h2 => match ownEq h2 T c x y with
    | some f => (cal f [x, y] h2).bind fun w h3 => match w with
      | .bl r => .ok (.bl (r == decide (c = .eq))) h3
      | _ => .stuck
    | none => cmp2 h2 c x y
  | .chain a c b d e, env, h => (evE a env h).bind fun x h1 => (evE b env h1).bind fun y h2 => (cmp2 h2 c x y).bind fun r h3 => match r with
    | .bl true => (evE e env h3).bind fun z h4 => cmp2 h4 d y z
    | .bl false => .ok (.bl false) h3
    | _ => .stuck
  | .chain3 a c b d e k f, env, h => (evE a env h).bind fun x h1 => (evE b env h1).bind fun y h2 => (cmp2 h2 c x y).bind fun r h3 => match r with
    | .bl true => (evE e env h3).bind fun z h4 => (cmp2 h4 d y z).bind fun q h5 => match q with
      | .bl true => (evE f env h5).bind fun u h6 => cmp2 h6 k z u
      | .bl false => .ok (.bl false) h5
      | _ => .stuck
    | .bl false => .ok (.bl false) h3
    | _ => .stuck
  | .isC pos k a, env, h => (evE a env h).bind fun x h1 => match k with
    | none => .ok (.bl (decide (x = .non) == pos)) h1
    | some b => (match x with
      | .bl c => .ok (.bl (decide (c = b) == pos)) h1
      | _ => .stuck)
  | .and a b, env, h => (evE a env h).bind fun x h1 => match x with
    | .bl true => evE b env h1
    | .bl false => .ok (.bl false) h1
    | _ => .stuck
  | .or a b, env, h => (evE a env h).bind fun x h1 => match x with
    | .bl true => .ok (.bl true) h1
    | .bl false => evE b env h1
    | _ => .stuck
  | .not a, env, h => (evE a env h).bind fun x h1 => match x with
    | .bl b => .ok (.bl (!b)) h1
    | _ => .stuck
  | .ite c a b, env, h => (evE c env h).bind fun x h1 => match x with
    | .bl true => evE a env h1
    | .bl false => evE b env h1
    | _ => .stuck
  | .tup es, env, h => (evEs es env h).bind fun ws h1 => if ws.length ≤ SZ then .ok (.tup ws) h1 else .stuck
  | .idx a i, env, h => (evE a env h).bind fun x h1 => (evE i env h1).bind fun y h2 => idx2 h2 x y
  | .slc a lo hi, env, h => (evE a env h).bind fun x h1 => (evO lo env h1).bind fun y h2 => (evO hi env h2).bind fun z h3 => slc2 h3 x y z
  | .fld a f, env, h => (evE a env h).bind fun x h1 => match x with
    | .ref r => (match h1[r]? with
      | some (.ins c fs) => if T.plain c = true then R.opt h1 (fs.lookup f) else .stuck
      | _ => .stuck)
    | _ => .stuck
  | .call f es, env, h => (evEs es env h).bind fun ws h1 => cal f ws h1
  | .callK f p es, env, h => (evEs es env h).bind fun ws h1 => (R.opt h1 (p.mapM fun i => ws[i]?)).bind fun us h2 => cal f us h2
  | .callD f ds es, env, h => (evEs es env h).bind fun ws h1 => cal f (ws ++ ds.map .int) h1
  | .new c es, env, h => (evEs es env h).bind fun ws h1 => mkN c ws h1
  | .newK c p es, env, h => (evEs es env h).bind fun ws h1 => (R.opt h1 (p.mapM fun i => ws[i]?)).bind fun us h2 => mkN c us h2
  | .meth a m es, env, h => (evE a env h).bind fun x h1 => match x with
    | .ref r => (match h1[r]? with
      | some (.ins c _) => (match T.meth c m with
        | some f => (evEs es env h1).bind fun ws h2 => cal f (.ref r :: ws) h2
        | none => .stuck)
      | _ => .stuck)
    | _ => .stuck
  | .methK a m p es, env, h => (evE a env h).bind fun x h1 => match x with
    | .ref r => (match h1[r]? with
      | some (.ins c _) => (match T.meth c m with
        | some f => (evEs es env h1).bind fun ws h2 => (R.opt h2 (p.mapM fun i => ws[i]?)).bind fun us h3 => cal f (.ref r :: us) h3
        | none => .stuck)
      | _ => .stuck)
    | _ => .stuck
  | .bi b es, env, h => (evEs es env h).bind fun ws h1 => bi1 h1 T b ws
  | .bm b a es, env, h => (evE a env h).bind fun x h1 => if bmK h1 b x then (evEs es env h1).bind fun ws h2 => bm2 h2 b x ws else .stuck
  | .lb b s, env, h => (evSq s env h).bind fun v h1 => if v.l then lb1 h1 b v.items else .stuck
  | .lst l, env, h => (evL l env h).bind fun ws h1 => .ok (.ref h1.length) (h1 ++ [.lst ws])
  | .eqS pos a b, env, h => (evSq a env h).bind fun x h1 => (evSq b env h1).bind fun y h2 => if gOk x.g h2 && x.l && y.l then (match eqL h2 x.items y.items with
    | some c => .ok (.bl (c == pos)) h2
    | none => .stuck) else .stuck
  | .inS pos a s, env, h => (evE a env h).bind fun x h1 => match s with
    | .val d => (evE d env h1).bind fun y h2 => R.opt h2 ((in2 h2 x y).map fun b => .bl (b == pos))
    | .fresh l => (evL l env h1).bind fun ws h2 => R.opt h2 ((inL x ws).map fun b => .bl (b == pos))
  | .dct0, _, h => .ok (.ref h.length) (h ++ [.dct []])
  | .dcomp k v t s c ws, env, h => locked (lockOf env h s) (fun h => (evSr s env h).bind fun sv h1 => if fitL sv.items then (noRaise (compGo sv.g (fun x h2 => match asgTg h2 t x (wipeE env ws) with
      | some e1 => (evC c e1 h2).bind fun b h3 => if b then (evE k e1 h3).bind fun kv h4 => (evE v e1 h4).bind fun vv h5 => if kv.key then .ok [.tup [kv, vv]] h5 else .stuck else .ok [] h3
      | none => .stuck) sv.items h1)).bind fun ps h2 => match pairsD ps [] with
        | some kvs => .ok (.ref h2.length) (h2 ++ [.dct kvs])
        | none => .stuck else .stuck) h
def evEs : Exs → Env → Hs → R (List W)
  | .nil, _, h => .ok [] h
  | .cons e es, env, h => (evE e env h).bind fun x h1 => (evEs es env h1).bind fun xs h2 => .ok (x :: xs) h2
def evSq : Sq → Env → Hs → R Sv
  | .val e, env, h => (evE e env h).bind fun x h1 => seqOf h1 x
  | .fresh l, env, h => (evL l env h).bind fun ws h1 => .ok ⟨ws, none, true⟩ h1
def evSr : Sr → Env → Hs → R Sv
  | .seq s, env, h => evSq s env h
  | .items e, env, h => (evE e env h).bind fun x h1 => itemsOf true h1 x
  | .values e, env, h => (evE e env h).bind fun x h1 => itemsOf false h1 x
  | .rng es, env, h => (evEs es env h).bind fun ws h1 => rngOf h1 ws
  | .enum s, env, h => (evSq s env h).bind fun v h1 => .ok ⟨enumL 0 v.items, v.g, false⟩ h1
  | .zip s t, env, h => (evSq s env h).bind fun v h1 => (evSq t env h1).bind fun u h2 => if gOk v.g h2 && v.g.isNone && u.g.isNone then .ok ⟨zipL v.items u.items, none, false⟩ h2 else .stuck
def evC : Cnd → Env → Hs → R Bool
  | .none, _, h => .ok true h
  | .some e, env, h => (evE e env h).bind fun x h1 => truth h1 x
def evO : Cnd → Env → Hs → R (Option Int)
  | .none, _, h => .ok none h
  | .some e, env, h => (evE e env h).bind fun x h1 => match x with
    | .int i => .ok (some i) h1
    | _ => .stuck
def evL : Le → Env → Hs → R (List W)
  | .disp es, env, h => (evEs es env h).bind fun ws h1 => if ws.length ≤ SZ then .ok ws h1 else .stuck
  | .comp e t s c ws, env, h => locked (lockOf env h s) (fun h => (evSr s env h).bind fun sv h1 => if fitL sv.items then noRaise (compGo sv.g (fun x h2 => match asgTg h2 t x (wipeE env ws) with
      | some e1 => (evC c e1 h2).bind fun b h3 => if b then (evE e e1 h3).bind fun y h4 => .ok [y] h4 else .ok [] h3
      | none => .stuck) sv.items h1) else .stuck) h
  | .ofS s, env, h => (evSr s env h).bind fun v h1 => .ok v.items h1
  | .lrng es, env, h => (evEs es env h).bind fun ws h1 => (rngOf h1 ws).bind fun v h2 => .ok v.items h2
  | .litems e, env, h => (evE e env h).bind fun x h1 => match x with
    | .ref r => (match h1[r]? with
      | some (.dct kvs) => .ok (kvs.map fun p => .tup [p.1, p.2]) h1
      | _ => .stuck)
    | _ => .stuck
  | .sorted s, env, h => (evSq s env h).bind fun v h1 => if v.l then R.opt h1 ((allI v.items).map fun ns => (sortI ns).map .int) else .stuck
  | .sortedSet s, env, h => (evSq s env h).bind fun v h1 => if v.l then R.opt h1 ((allI v.items).bind fun ns => if (sortU ns).length < 4000 then some ((sortU ns).map .int) else none) else .stuck
  | .cat a b, env, h => (evSq a env h).bind fun x h1 => (evSq b env h1).bind fun y h2 => if gOk x.g h2 && x.lst && y.lst && decide (x.items.length + y.items.length ≤ SZ) then .ok (x.items ++ y.items) h2 else .stuck
  | .rep a k, env, h => (evSq a env h).bind fun x h1 => (evE k env h1).bind fun w h2 => match w with
    | .int n => if gOk x.g h2 && x.lst && okIx n && decide (x.items.length * n.toNat ≤ SZ) then .ok (List.replicate n.toNat x.items).flatten h2 else .stuck
    | _ => .stuck
/-- C(..): an exception is a value, an instance is laid and its __init__ is called -/
def mkN (c : Nat) (ws : List W) (h : Hs) : R W := match T.exf c with
  | some _ => .stuck
  | none => match (if T.plain c = true then T.init c else none) with
    | some f => (cal f (.ref h.length :: ws) (h ++ [.ins c []])).bind fun v h1 => match v with
      | .non => .ok (.ref h.length) h1
      | _ => .stuck
    | none => .stuck
end
end

inductive Fl where
  | next (env : Env) | ret (w : W) | brk (env : Env) | cont (env : Env)

def forGo (g : Option (Nat × Cell)) (t : Tg) (f : Env → Hs → R Fl) : List W → Env → Hs → R Fl
  | [], env, h => if gOk g h then .ok (.next env) h else .stuck
  | x :: xs, env, h => if gOk g h then (match asgTg h t x env with
    | some e1 => (f e1 h).bind fun fl h1 => match fl with
      | .next e2 => forGo g t f xs e2 h1
      | .cont e2 => forGo g t f xs e2 h1
      | .brk e2 => .ok (.next e2) h1
      | .ret w => .ok (.ret w) h1
    | none => .stuck) else .stuck
def whileGo (c : Env → Hs → R W) (f : Env → Hs → R Fl) : Nat → Env → Hs → R Fl
  | 0, _, _ => .stuck
  | n + 1, env, h => (c env h).bind fun b h1 => match b with
    | .bl false => .ok (.next env) h1
    | .bl true => (f env h1).bind fun fl h2 => match fl with
      | .next e2 => whileGo c f n e2 h2
      | .cont e2 => whileGo c f n e2 h2
      | .brk e2 => .ok (.next e2) h2
      | .ret w => .ok (.ret w) h2
    | _ => .stuck
def heV (T : Tab) (c : Nat) (vs : List W) (h : Hs) : HE → Option W
  | .str x => some (.str x)
  | .fld k => (T.exf c).bind fun fs => (fs.zip vs).lookup k
  | .isA ts => (ts.mapM fun t => isTy h T t (.exn c vs)).map fun bs => .bl (bs.all id)
def setAll : List Nat → List W → Env → Option Env
  | [], [], env => some env
  | i :: r, w :: s, env => if i < env.length then setAll r s (env.set i (some w)) else none
  | _, _, _ => none
def putFs (T : Tab) (env : Env) : List Nat → List Nat → List W → Hs → Option Hs
  | [], [], [], h => some h
  | i :: r, f :: s, w :: t, h => match env[i]? with
    | some (some (.ref a)) => (match h[a]? with
      | some (.ins c fs) => if fs.length < 900 ∧ T.plain c = true then putFs T env r s t (h.set a (.ins c (fPut f w fs))) else none
      | _ => none)
    | _ => none
  | _, _, _, _ => none
section
variable (T : Tab) (cal : Nat → List W → Hs → R W) (wf : Nat)
mutual
def evS : St → Env → Hs → R Fl
  | .asg t e, env, h => (evE T cal e env h).bind fun w h1 => match asgTg h1 t w env with
    | some e1 => .ok (.next e1) h1
    | none => .stuck
  | .asgT is es, env, h => (evEs T cal es env h).bind fun ws h1 => match setAll is ws env with
    | some e1 => .ok (.next e1) h1
    | none => .stuck
  | .fldT is fs es, env, h => (evEs T cal es env h).bind fun ws h1 => match putFs T env is fs ws h1 with
    | some h2 => .ok (.next env) h2
    | none => .stuck
  | .fldSet o f e, env, h => (evE T cal e env h).bind fun w h1 => (evE T cal o env h1).bind fun x h2 => match x with
    | .ref r => (match h2[r]? with
      | some (.ins c fs) => if fs.length < 900 ∧ T.plain c = true then .ok (.next env) (h2.set r (.ins c (fPut f w fs))) else .stuck
      | _ => .stuck)
    | _ => .stuck
  | .idxSet o i e, env, h => (evE T cal e env h).bind fun w h1 => (evE T cal o env h1).bind fun x h2 => (evE T cal i env h2).bind fun k h3 => match x with
    | .ref r => (match h3[r]? with
      | some (.lst xs) => (match k with
        | .int j => (match L2.ixN xs.length j with
          | some n => .ok (.next env) (h3.set r (.lst (xs.set n w)))
          | none => .stuck)
        | _ => .stuck)
      | some (.dct kvs) => if k.key && decide (kvs.length < SZ) then .ok (.next env) (h3.set r (.dct (dPut k w kvs))) else .stuck
      | _ => .stuck)
    | _ => .stuck
  | .expr e, env, h => (evE T cal e env h).bind fun _ h1 => .ok (.next env) h1
  | .ret e, env, h => (evE T cal e env h).bind fun w h1 => .ok (.ret w) h1
  | .retN, _, h => .ok (.ret .non) h
  | .pass, env, h => .ok (.next env) h
  | .brk, env, h => .ok (.brk env) h
  | .cont, env, h => .ok (.cont env) h
  | .raise c es, env, h => match T.exf c with
    | some fs => (evEs T cal es env h).bind fun ws h1 => if ws.length = fs.length then .raise c ws h1 else .stuck
    | none => .stuck
  | .ite c a b, env, h => (evE T cal c env h).bind fun x h1 => match x with
    | .bl true => evSs a env h1
    | .bl false => evSs b env h1
    | _ => .stuck
  | .for t s b, env, h => locked (lockOf env h s) (fun h => (evSr T cal s env h).bind fun sv h1 => forGo sv.g t (fun e1 h2 => evSs b e1 h2) sv.items env h1) h
  | .while c b, env, h => whileGo (fun e1 h1 => evE T cal c e1 h1) (fun e1 h1 => evSs b e1 h1) wf env h
  | .try b hs, env, h => match evSs b env h with
    | .raise c vs h1 => (match hs.find? fun d => T.sub c d.c with
      | some d => (match d.out.mapM (heV T c vs h1) with
        | some ws => .ok (.ret (.ref h1.length)) (h1 ++ [.lst ws])
        | none => .stuck)
      | none => .raise c vs h1)
    | r => r
def evSs : Sts → Env → Hs → R Fl
  | .nil, env, h => .ok (.next env) h
  | .cons s r, env, h => (evS s env h).bind fun fl h1 => match fl with
    | .next e1 => evSs r e1 h1
    | fl => .ok fl h1
end
end
/-- a call's end: what is left over is let go, if nothing names it -/
def cutH (n : Nat) (ws : List W) (h : Hs) : Hs := if h.length ≤ n then h else if W.bels n ws && Closed n (h.take n) then h.take n else h
def fin (n : Nat) : R Fl → R W
  | .ok (.ret w) h => .ok w (cutH n [w] h)
  | .ok (.next _) h => .ok .non (cutH n [] h)
  | .raise c vs h => .raise c vs (cutH n vs h)
  | _ => .stuck
def start (ns : Nat) (ws : List W) : Env := ws.map some ++ List.replicate (ns - ws.length) none
def callN (P : Pg) : Nat → Nat → List W → Hs → R W
  | 0, _, _, _ => .stuck
  | n + 1, f, ws, h => match P.fns[f]? with
    | some d => if ws.length = d.np then fin h.length (evSs P.T (callN P n) P.wf d.body (start d.ns ws) h) else .stuck
    | none => .stuck
def R.yes : R W → Bool
  | .ok (.bl true) _ => true
  | _ => false
def R.said {α : Type} : R α → Nat
  | .ok _ _ => 0
  | .raise _ _ _ => 1
  | .stuck => 2
end MP
end

section
set_option Elab.async false
set_option linter.all false
set_option maxRecDepth 100000
set_option maxHeartbeats 8000000
/-! MiniPy: sorted(set(..)) of ints. -/
namespace MP
open PySem PySem.Spec PyProof.Rows L2
/-! ### the plain side -/
theorem insU_mem {x y : Int} : ∀ {l : List Int}, y ∈ insU x l ↔ y = x ∨ y ∈ l
  | [] => by simp [insU]
  | z :: r => by
    unfold insU
    split
    · simp
    · split
      · rename_i h1 h2
        subst h2
        simp
      · simp only [List.mem_cons, insU_mem (l := r)]
        constructor
        · rintro (h | h | h) <;> simp [h]
        · rintro (h | h | h) <;> simp [h]
theorem insU_pw {x : Int} : ∀ {l : List Int}, l.Pairwise (· < ·) → (insU x l).Pairwise (· < ·)
  | [], _ => by simp [insU]
  | z :: r, h => by
    obtain ⟨h1, h2⟩ := List.pairwise_cons.mp h
    unfold insU
    split
    · rename_i hx
      exact List.pairwise_cons.mpr ⟨fun y hy => by rcases List.mem_cons.mp hy with rfl | hy; exact hx; have := h1 y hy; omega, h⟩
    · split
      · exact h
      · refine List.pairwise_cons.mpr ⟨fun y hy => ?_, insU_pw h2⟩
        rcases insU_mem.mp hy with rfl | hy
        · omega
        · exact h1 y hy
theorem sortU_mem {y : Int} : ∀ {l : List Int}, y ∈ sortU l ↔ y ∈ l
  | [] => by simp [sortU]
  | x :: r => by rw [sortU, insU_mem, sortU_mem (l := r), List.mem_cons]
theorem sortU_pw : ∀ l : List Int, (sortU l).Pairwise (· < ·)
  | [] => List.Pairwise.nil
  | x :: r => insU_pw (sortU_pw r)
theorem pw_nd {l : List Int} (h : l.Pairwise (· < ·)) : l.Nodup := h.imp fun h e => by omega
theorem sortU_eq {l m : List Int} (h : m.Pairwise (· < ·)) (hm : ∀ k, k ∈ m ↔ k ∈ l) : m = sortU l :=
  List.Perm.eq_of_pairwise (le := (· ≤ ·)) (fun _ _ _ _ a b => Int.le_antisymm a b) (h.imp fun h => Int.le_of_lt h) ((sortU_pw l).imp fun h => Int.le_of_lt h) ((List.perm_ext_iff_of_nodup (pw_nd h) (pw_nd (sortU_pw l))).mpr fun k => (hm k).trans sortU_mem.symm)
theorem sortU_snoc (l : List Int) (z : Int) : (sortU (l ++ [z])).length = if decide (z ∈ l) = true then (sortU l).length else (sortU l).length + 1 := by
  by_cases h : z ∈ l
  · rw [if_pos (decide_eq_true h)]
    refine ((List.perm_ext_iff_of_nodup (pw_nd (sortU_pw _)) (pw_nd (sortU_pw _))).mpr fun k => ?_).length_eq
    rw [sortU_mem, sortU_mem, List.mem_append, List.mem_singleton]
    exact ⟨fun q => q.elim id fun e => e ▸ h, .inl⟩
  · rw [if_neg (by simpa using h)]
    have nd : (z :: sortU l).Nodup := List.nodup_cons.mpr ⟨fun q => h (sortU_mem.mp q), pw_nd (sortU_pw _)⟩
    refine ((List.perm_ext_iff_of_nodup (pw_nd (sortU_pw _)) nd).mpr fun k => ?_).length_eq
    rw [sortU_mem, List.mem_cons, sortU_mem, List.mem_append, List.mem_singleton]
    exact Or.comm
theorem sortU_mono (l m : List Int) : (sortU l).length ≤ (sortU (l ++ m)).length := by
  induction m generalizing l with
  | nil => rw [List.append_nil]; exact Nat.le_refl _
  | cons z m ih =>
    rw [show l ++ z :: m = (l ++ [z]) ++ m by simp]
    refine Nat.le_trans ?_ (ih (l ++ [z]))
    rw [sortU_snoc]
    split <;> omega
end MP
namespace L2
open PySem PySem.Spec PyProof.Rows
section
variable {P : Program} {w : World} {A : Around} {E : Value → Shared → Prop} {s : Shared}
theorem mp_set_update {I : Addr} {fp wr : List Addr} {G : Array GenState → Array GenState → Prop} {n : Nat} {Pv : Nat → Value → Prop} {St : Nat → Shared → Prop} {R : Result → Shared → Prop}
    (W : WalksS P w A.in1 I fp wr G n Pv St) (S : Addr) (hSf : S ∉ fp) (ns : List Int) (hn : n = ns.length) (hb : (MP.sortU ns).length + 1 < scanBound) (hval : ∀ i v, Pv i v → ∃ k t, ns[i]? = some k ∧ v = .int k t) :
    ∀ (k i : Nat) (s : Shared), n - i = k → i ≤ n → St i s → SetR w s.heap S (fun j => decide (j ∈ ns.take i)) (MP.sortU (ns.take i)).length →
      (∀ s', Moved (S :: wr) G s s' → SetR w s'.heap S (fun j => decide (j ∈ ns)) (MP.sortU ns).length → R (.ok (.ret .none)) s') →
      codeAny (model P w) A (.builtin "set.update.loop" ⟨[.ref S, .ref I], []⟩) R s := by
  have hSw : S ∉ wr := fun h => hSf (W.sub _ h)
  have hsub : ∀ b ∈ wr, b ∈ S :: wr := fun b hb => List.mem_cons_of_mem _ hb
  intro k
  induction k with
  | zero =>
    intro i s hk' hi hst hS hR
    have hin : i = n := by omega
    subst hin
    refine codeAny_builtin F.entry_set_update_loop ?_
    rw [Around.under_plainId F.plain_set_update_loop _]
    show wpAny _ A.in1 (pyNext (.ref I) >>= _) _ _ s
    refine wpAny_bind (W.done s _ _ hst fun s' hm => ?_)
    show wpAny _ A.in1 (ret Value.none) _ _ s'
    have e : ns.take i = ns := List.take_of_length_le (by omega)
    rw [e] at hS
    exact wpAny_pure (hR s' (hm.mono hsub) (hS.at fun o e => hm.heap S o hSw e))
  | succ k ih =>
    intro i s hk' hi hst hS hR
    have hlt : i < n := by omega
    refine codeAny_builtin F.entry_set_update_loop ?_
    rw [Around.under_plainId F.plain_set_update_loop _]
    show wpAny _ A.in1 (pyNext (.ref I) >>= _) _ _ s
    refine wpAny_bind (W.item i s _ _ hlt hst fun v s' hP hst' hm => ?_)
    obtain ⟨z, t, hz, rfl⟩ := hval i v hP
    have hS' : SetR w s'.heap S (fun j => decide (j ∈ ns.take i)) (MP.sortU (ns.take i)).length := hS.at fun o e => hm.heap S o hSw e
    have hle : (MP.sortU (ns.take i)).length ≤ (MP.sortU ns).length := by
      have := MP.sortU_mono (ns.take i) (ns.drop i)
      rwa [List.take_append_drop] at this
    show wpAny _ A.in1 (holding [Value.int z t] (setAdd S (.int z t)) >>= _) _ _ s'
    refine wpAny_bind (wpAny_holding ?_)
    unfold setAdd
    refine wpAny_holding ?_
    refine wpAny_bind ((intKind P w).pyHash (k := z) (intKind_is _ _ _ _) ?_)
    refine setR_add_hashed (s := { s' with toks := s'.toks + 1 }) hS' (by omega) fun h' hsb hS2 => ?_
    have et : ns.take (i + 1) = ns.take i ++ [z] := by rw [List.take_add_one, hz]; rfl
    have hS3 : SetR w h' S (fun j => decide (j ∈ ns.take (i + 1))) (MP.sortU (ns.take (i + 1))).length := by
      rw [et, MP.sortU_snoc]
      exact hS2.congr fun j => by simp [List.mem_append]
    refine wpAny_pure ⟨plainId_quiet F.plain_set_update_loop _, ih (i + 1) _ (by omega) hlt (W.frame _ s' _ _ hst' (Nat.le_succ _) fun b hb o e => ?_) hS3 fun s'' hm'' hS'' => ?_⟩
    · rw [hsb.2 b (fun h : b = S => hSf (by rw [← h]; exact hb))]; exact e
    · refine hR s'' (Moved.trans W.gtrans ((hm.mono hsub).then_heap (Nat.le_succ _) fun b o hb e => ?_) hm'') hS''
      rw [hsb.2 b (fun h : b = S => hb (by rw [h]; exact List.mem_cons_self))]; exact e
set_option maxHeartbeats 8000000 in
theorem mp_set_list {l : Addr} {items : Array Value} (ns : List Int) {Q : Value → Shared → Prop} (hh : A.handled = none) (hl : s.heap.IsList l items) (hit : IntsAre items.toList ns) (hb : (MP.sortU ns).length + 1 < scanBound)
    (h : ∀ (h' : Heap) (tk : Nat), SetR w h' s.heap.objs.size (fun j => decide (j ∈ ns)) (MP.sortU ns).length → (∀ b o, s.heap.get? b = some o → h'.get? b = some o) → Q (.ref s.heap.objs.size) { s with heap := h', toks := tk }) :
    wpAny (model P w) A (call (.type "set") [.ref l]) Q E s := by
  have hisz : items.size = ns.length := by
    have q := IntsAre.length hit
    rw [Array.length_toList] at q
    exact q
  obtain ⟨c, tl, hmro⟩ := F.called_set.mro
  have hmade := F.called_set.made
  have hsub := F.called_set.sub
  refine wpAny_call (codeAny_of_tree ?_)
  show wpAny _ _ (callAny (.type "set") _) _ _ _
  refine wpAny_pure ⟨Code.quiet_builtin _ (by decide +kernel), codeAny_builtin F.entry_type_call ?_⟩
  rw [Around.under_plain (weight_type_call_type "set" [.ref l] []) rfl]
  have h1 := F.called_set.notType
  have h2 := F.called_set.canCreate
  have hct := F.typeCall_set_1 (.ref l)
  repeat (any_goals (first | assumption | wp_step))

  refine codeAny_mono (code_set_led1 (.ref l) (E := E) (Q₁ := fun obj s₁ => obj = .ref s.heap.objs.size ∧ s₁ = { s with heap := s.heap.push { cls := .type "set", dict := none, data := .set #[] 0 (.fresh 0 0 (!w.params.followText "set-order")) } }) ⟨rfl, rfl⟩) fun r s₁ hr => ?_
  cases r with
  | error e => exact hr
  | ok fl =>
    cases fl with
    | ret obj =>
      obtain ⟨rfl, rfl⟩ := hr
      have hS : (s.heap.push { cls := .type "set", dict := none, data := .set #[] 0 (.fresh 0 0 (!w.params.followText "set-order")) }).get? s.heap.objs.size = some { cls := .type "set", dict := none, data := .set #[] 0 (.fresh 0 0 (!w.params.followText "set-order")) } := Heap.get?_push_size _ rfl
      have hT : Shared.TypeIs { s with heap := s.heap.push { cls := .type "set", dict := none, data := .set #[] 0 (.fresh 0 0 (!w.params.followText "set-order")) } } (.ref s.heap.objs.size) "set" := ⟨_, hS, rfl⟩
      have hli := F.called_set.init.lookup
      have hbi := F.called_set.init.bind (.ref s.heap.objs.size)
      repeat (any_goals (first | assumption | wp_step))

      refine codeAny_mono (codeAny_call_builtin (R := wants (fun r s₂ => r = .none ∧ ∃ h' tk, s₂ = { s with heap := h', toks := tk } ∧ SetR w h' s.heap.objs.size (fun j => decide (j ∈ ns)) (MP.sortU ns).length ∧
          (∀ b o, s.heap.get? b = some o → h'.get? b = some o)) E) F.called_set.init.plain F.entry_set_init (check_set_init_1 hT ?_)) fun r₂ s₂ hr₂ => ?_
      · obtain ⟨ol, hol, hcl, nl, hdl⟩ := hl
        obtain ⟨ocls, odict, odata, oslots⟩ := ol
        simp only at hcl hdl
        subst hcl; subst hdl
        have hol' : (s.heap.push { cls := .type "set", dict := none, data := .set #[] 0 (.fresh 0 0 (!w.params.followText "set-order")) }).get? l = some { cls := .type "list", dict := odict, data := .seq items nl, slots := oslots } := Heap.get?_push_of_some _ hol
        have hsls := F.sub_list_set
        have hslf := F.sub_list_frozenset
        have hne : (Value.type "list" == Value.type "dict") = false := by decide
        have hl1 : (s.heap.push { cls := .type "set", dict := none, data := .set #[] 0 (.fresh 0 0 (!w.params.followText "set-order")) }).IsList l items := ⟨_, hol', rfl, nl, rfl⟩
        unfold Builtin.«set.__init__» noKeywords Builtin.Frozenset.updateFrom
        generalize hPI : pyIter = PI
        wp_walk
        subst hPI

        refine wpAny_pyIter_list hl1 ?_
        refine wpAny_bind (wpAny_runValue ?_)
        have hlS : l < s.heap.objs.size := Heap.lt_size hol
        have hh3 : A.in1.in1.in1.handled = none := by simp [hh]
        have hneI : l ≠ (s.heap.push { cls := .type "set", dict := none, data := .set #[] 0 (.fresh 0 0 (!w.params.followText "set-order")) }).objs.size := by
          rw [Heap.size_push]; exact Nat.ne_of_lt (Nat.lt_succ_of_lt hlS)
        have hSf : s.heap.objs.size ∉ [(s.heap.push { cls := .type "set", dict := none, data := .set #[] 0 (.fresh 0 0 (!w.params.followText "set-order")) }).objs.size, l] := by
          rw [Heap.size_push]; simp only [List.mem_cons, List.mem_singleton, List.not_mem_nil, or_false, not_or]
          exact ⟨Nat.ne_of_lt (Nat.lt_succ_self _), Nat.ne_of_gt hlS⟩
        have hval : ∀ (i : Nat) (v : Value), items[i]? = some v → ∃ k t, ns[i]? = some k ∧ v = .int k t := fun i v hv => by
          have hi : i < ns.length := by rw [← hisz]; exact (Array.getElem?_eq_some_iff.mp hv).1
          obtain ⟨t, e⟩ := PyProof.Rows.IntsAre.int_at hit i v (by rw [Array.getElem?_toList]; exact hv)
          refine ⟨ns[i], t, List.getElem?_eq_getElem hi, ?_⟩
          rw [e, List.getD_eq_getElem?_getD, List.getElem?_eq_getElem hi] <;> rfl
        refine mp_set_update ((Walks.list hh3 _ l hneI items).toS) s.heap.objs.size
          hSf ns hisz hb hval (items.size - 0) 0 _ (by omega) (Nat.zero_le _)
          ⟨⟨_, Heap.get?_push_size _ rfl, rfl, rfl⟩, (hl1.push _)⟩ ?hS0 ?hR
        case hS0 =>
          have hget : ((s.heap.push { cls := .type "set", dict := none, data := .set #[] 0 (.fresh 0 0 (!w.params.followText "set-order")) }).push { cls := .type "list_iterator", data := .fields #[.ref l, .int 0 0] }).get? s.heap.objs.size
              = some { cls := .type "set", dict := none, data := .set #[] 0 (.fresh 0 0 (!w.params.followText "set-order")) } := Heap.get?_push_of_some _ hS
          exact setR_new_at hget
        case hR =>
          intro s' hm hS'
          obtain ⟨h', g2, d', tk', os'⟩ := s'
          have eg : g2 = s.gens := hm.gens
          have ed : d' = s.drawn := hm.drawn
          have eo : os' = s.os := hm.os
          subst eg; subst ed; subst eo
          show wpAny _ _ _ _ _ _
          refine wpAny_pure ?_
          show wpAny _ _ (ret Value.none) _ _ _
          refine wpAny_pure ⟨rfl, h', tk', rfl, hS', fun b o e => ?_⟩
          have hb0 : b < s.heap.objs.size := Heap.lt_size e
          have hb1 : b ≠ s.heap.objs.size := Nat.ne_of_lt hb0
          have hb2 : b ≠ (s.heap.push { cls := .type "set", dict := none, data := .set #[] 0 (.fresh 0 0 (!w.params.followText "set-order")) }).objs.size := by
            rw [Heap.size_push]; exact Nat.ne_of_lt (Nat.lt_succ_of_lt hb0)
          exact hm.heap b o (by simp only [List.mem_cons, List.mem_singleton, List.not_mem_nil, or_false, not_or]; exact ⟨hb1, hb2⟩) (Heap.get?_push_of_some _ (Heap.get?_push_of_some _ e))

      · cases r₂ with
        | error e => exact hr₂
        | ok fl₂ =>
          cases fl₂ with
          | ret r =>
            obtain ⟨rfl, h', tk, rfl, hS', hk'⟩ := hr₂
            repeat (any_goals (first | assumption | wp_step))
            exact h _ _ hS' hk'
          | _ => exact hr₂.elim
    | _ => exact hr.elim
end
end L2
end

section
set_option Elab.async false
set_option linter.all false
set_option maxRecDepth 100000
set_option maxHeartbeats 8000000
/-! MiniPy: sorted(a set). -/
namespace L2
open PySem PySem.Spec PyProof.Rows
section
variable {P : Program} {w : World} {A : Around} {E : Value → Shared → Prop} {s : Shared}
/-- sorted(a set of ints), any number of them -/
theorem mp_sorted_set {a : Addr} {S : Int → Bool} {n : Nat} {Q : Value → Shared → Prop} (R : SetR w s.heap a S n) (hh : A.handled = none) (hz0 : n ≤ sizeLine)
    (hQ : ∀ s' p (out : List Value) (c : Nat) (ns : List Int), (∀ b o, s.heap.get? b = some o → s'.heap.get? b = some o) → s'.gens = s.gens → s'.os = s.os → s.heap.objs.size ≤ p →
      s'.heap.get? p = some (seqObj "list" out.toArray c) → IntsAre out ns → ns.Pairwise (· < ·) → (∀ k, k ∈ ns ↔ S k = true) → ns.length = n → Q (.ref p) s') :
    wpAny (model P w) A (call (.builtin "sorted") [.ref a]) Q E s := by
  obtain ⟨o, es, ep, t, ho, hex, hd, g, nd, hm, hb, hf, hn, hr, hl⟩ := R
  refine Calls.call_function_entry kind_sorted plain_sorted entry_sorted (args_sorted1 _) ?_
  unfold Builtin.«sorted»
  refine wpAny_bind (m := checkCount "sorted" 1 1 _) (wpAny_pure ?_)
  refine wpAny_bind (collect_set (A := A.in1) hh ⟨o, ho, hex.1, hd⟩ hf hb hr hl fun s1 vs k1 hz g1 o1 pm => ?_)
  have hvl : vs.length = n := by rw [pm.length_eq, List.length_map, Array.length_toList]; exact hn
  have hI : IntsAre vs (vs.map Builtin.Re.reRawOf) := ints_of vs fun v hv => by
    obtain ⟨e, he, q⟩ := List.mem_map.mp (pm.mem_iff.mp hv)
    obtain ⟨k, tk, h1, _⟩ := g e he
    exact ⟨k, tk, by rw [← q]; exact h1⟩
  have pk : (vs.map Builtin.Re.reRawOf).Perm (es.toList.map keyOf) := by
    have q := pm.map Builtin.Re.reRawOf
    rw [List.map_map] at q
    exact q
  refine wpAny_bind (wpAny_newList ?_ (by rw [hvl]; exact hz0))
  have hoL : (s1.heap.push (seqObj "list" vs.toArray 0)).get? s1.heap.objs.size = some (seqObj "list" vs.toArray 0) := Heap.get?_push_size _ rfl
  refine wpAny_bind (wpAny_holding (wpAny_call_entry slot_list_sort ⟨_, hoL, rfl⟩ entry_list_sort (SrtO.list_sort_ord SrtO.swo_int hoL (by rw [hvl]; exact hz0) (fun h2 => SrtO.ints_sortable hI h2) fun out h1 h2 => ⟨.none, rfl, ?_⟩) (args_list_sort _)))
  obtain ⟨a1, a2, a3⟩ := SrtO.ints_out hI h1 h2
  obtain ⟨c, hc⟩ := sortedHeap_at (vs := vs) (out := out.toArray) hoL
  have pn : (out.map SrtO.iv).Perm (es.toList.map keyOf) := a2.trans pk
  refine wpAny_pure ⟨_, rfl, hQ _ s1.heap.objs.size out c (out.map SrtO.iv) (fun b u e => ?_) g1 o1 hz hc a1 (lt_of_le_nodup _ a3 (pn.nodup_iff.mpr nd)) (fun k => by rw [pn.mem_iff, ← hm k]) ?_⟩
  · have q := k1 b u e
    have hlt := Heap.lt_size q
    show (sortedHeap (s1.heap.push (seqObj "list" vs.toArray 0)) s1.heap.objs.size vs out.toArray).get? b = some u
    rw [sortedHeap_old (Nat.ne_of_lt hlt) (by rw [size_push']; exact Nat.lt_succ_of_lt hlt)]
    exact Heap.get?_push_of_some _ q
  · rw [pn.length_eq, List.length_map, Array.length_toList]; exact hn
end
end L2
end

section
set_option Elab.async false
set_option linter.all false
set_option maxRecDepth 100000
set_option maxHeartbeats 4000000
/-! MiniPy against the abstract heap: the relation, outcomes. -/
namespace MP
open PySem PySem.Spec PyProof.Rows L2

/-- where things stand: the fields' names, the defs, the classes -/
structure Nm where
  fn : Nat → Str
  fa : Nat → Addr
  ca : Nat → Addr
abbrev Mp := List Addr

section
variable (K : PySem.W.Frag) (A : Nm)
mutual
def RelW (m : Mp) (H : Hp) : W → V → Prop
  | .non, v => v = .non
  | .bl b, v => v = .bl b
  | .int i, v => v = .int i
  | .str x, v => v = .str x
  | .tup ws, v => ∃ a vs, v = .ref a ∧ SqT K H a vs ∧ RelWs m H ws vs
  | .ref r, v => ∃ a, m[r]? = some a ∧ v = .ref a
  | .fn f, v => v = .ref (A.fa f)
  | .cls c, v => v = .ref (A.ca c)
  | .exn _ _, _ => False
def RelWs (m : Mp) (H : Hp) : List W → List V → Prop
  | [], vs => vs = []
  | w :: ws, vs => ∃ v r, vs = v :: r ∧ RelW m H w v ∧ RelWs m H ws r
end
def keyW : Key → W
  | .inl i => .int i
  | .inr x => .str x
def RelKV (m : Mp) (H : Hp) : List (W × W) → List (Key × V) → Prop
  | [], ks => ks = []
  | p :: ps, ks => ∃ k v r, ks = (k, v) :: r ∧ p.1 = keyW k ∧ RelW K A m H p.2 v ∧ RelKV m H ps r
def RelFs (m : Mp) (H : Hp) : List (Nat × W) → List (Str × V) → Prop
  | [], gs => gs = []
  | p :: ps, gs => ∃ v r, gs = (A.fn p.1, v) :: r ∧ RelW K A m H p.2 v ∧ RelFs m H ps r
def CellOk (m : Mp) (H : Hp) (a : Addr) : Cell → Prop
  | .lst ws => ∃ vs, H a = some (.lst vs) ∧ RelWs K A m H ws vs
  | .frz ws => ∃ o vs, H a = some (.frz o (.lst vs)) ∧ RelWs K A m H ws vs
  | .dct kvs => ∃ ks, H a = some (.dK ks) ∧ RelKV K A m H kvs ks
  | .fdc kvs => ∃ o ks, H a = some (.frz o (.dK ks)) ∧ RelKV K A m H kvs ks
  | .ins c fs => ∃ dx gs, H a = some (.ins (A.ca c) dx gs) ∧ RelFs K A m H fs gs
structure HRel (m : Mp) (h : Hs) (H : Hp) : Prop where
  len : m.length = h.length
  nd : m.Nodup
  cell : ∀ (r : Nat) c a, h[r]? = some c → m[r]? = some a → CellOk K A m H a c
def EnvR (m : Mp) (H : Hp) (env : Env) (σ : L2.St) : Prop := env.length = σ.length ∧ ∀ (i : Nat) w, env[i]? = some (some w) → ∃ v, σ[i]? = some (some v) ∧ RelW K A m H w v
end

/-- what a step leaves: the map grows by new addresses, what is tracked and not in it stays, tuples stay -/
structure Stp (m : Mp) (H : Hp) (m' : Mp) (H' : Hp) : Prop where
  pre : ∀ (r : Nat) a, m[r]? = some a → m'[r]? = some a
  fr : ∀ a o, H a = some o → a ∉ m → H' a = some o
  tp : ∀ a vs, Rd H a (.tup vs) → Rd H' a (.tup vs)
  nw : ∀ a, a ∈ m' → a ∈ m ∨ H a = none
  fz : ∀ a o u, H a = some (.frz o u) → H' a = some (.frz o u)
theorem Stp.rfl' {m : Mp} {H : Hp} : Stp m H m H := ⟨fun _ _ h => h, fun _ _ h _ => h, fun _ _ h => h, fun _ h => .inl h, fun _ _ _ h => h⟩
theorem Stp.trans {m m1 m2 : Mp} {H H1 H2 : Hp} (p : Stp m H m1 H1) (q : Stp m1 H1 m2 H2) : Stp m H m2 H2 where
  pre := fun r a h => q.pre r a (p.pre r a h)
  fr := fun a o h n => q.fr a o (p.fr a o h n) fun k => by
    rcases p.nw a k with k | k
    · exact n k
    · rw [h] at k; cases k
  tp := fun a vs h => q.tp a vs (p.tp a vs h)
  fz := fun a o u h => q.fz a o u (p.fz a o u h)
  nw := fun a h => by
    rcases q.nw a h with k | k
    · exact p.nw a k
    · by_cases n : a ∈ m
      · exact .inl n
      · right
        cases e : H a with
        | none => rfl
        | some o => rw [p.fr a o e n] at k; cases k

section
variable {K : PySem.W.Frag} {A : Nm} {m m' : Mp} {H H' : Hp}
theorem sqT_stp (s : Stp m H m' H') {a : Addr} {vs : List V} (h : SqT K H a vs) : SqT K H' a vs := by
  rcases h with h | h
  · exact .inl (s.tp a vs h)
  · exact .inr h
mutual
theorem RelW.mono (s : Stp m H m' H') : ∀ {w : W} {v : V}, RelW K A m H w v → RelW K A m' H' w v
  | .non, _, h => h
  | .bl _, _, h => h
  | .int _, _, h => h
  | .str _, _, h => h
  | .tup ws, _, h => by
    obtain ⟨a, vs, e, q, r⟩ := (show ∃ a vs, _ = V.ref a ∧ SqT K H a vs ∧ RelWs K A m H ws vs from h)
    exact ⟨a, vs, e, sqT_stp s q, RelWs.mono s r⟩
  | .ref r, _, h => by
    obtain ⟨a, e, q⟩ := (show ∃ a, m[r]? = some a ∧ _ = V.ref a from h)
    exact ⟨a, s.pre _ _ e, q⟩
  | .fn _, _, h => h
  | .cls _, _, h => h
  | .exn _ _, _, h => h
theorem RelWs.mono (s : Stp m H m' H') : ∀ {ws : List W} {vs : List V}, RelWs K A m H ws vs → RelWs K A m' H' ws vs
  | [], _, h => h
  | w :: ws, _, h => by
    obtain ⟨v, r, e, q, z⟩ := (show ∃ v r, _ = v :: r ∧ RelW K A m H w v ∧ RelWs K A m H ws r from h)
    exact ⟨v, r, e, RelW.mono s q, RelWs.mono s z⟩
end
theorem RelKV.mono (s : Stp m H m' H') : ∀ {ps : List (W × W)} {ks : List (Key × V)}, RelKV K A m H ps ks → RelKV K A m' H' ps ks
  | [], _, h => h
  | _ :: _, _, ⟨k, v, r, e, q, z, t⟩ => ⟨k, v, r, e, q, z.mono s, RelKV.mono s t⟩
theorem RelFs.mono (s : Stp m H m' H') : ∀ {ps : List (Nat × W)} {ks : List (Str × V)}, RelFs K A m H ps ks → RelFs K A m' H' ps ks
  | [], _, h => h
  | _ :: _, _, ⟨v, r, e, z, t⟩ => ⟨v, r, e, z.mono s, RelFs.mono s t⟩
/-- a cell whose object stands as it stood -/
theorem CellOk.mono (s : Stp m H m' H') {a : Addr} {c : Cell} (e : H' a = H a) (h : CellOk K A m H a c) : CellOk K A m' H' a c := by
  cases c with
  | lst ws => obtain ⟨vs, q, r⟩ := h; exact ⟨vs, e.trans q, r.mono s⟩
  | frz ws => obtain ⟨o, vs, q, r⟩ := h; exact ⟨o, vs, e.trans q, r.mono s⟩
  | dct ws => obtain ⟨vs, q, r⟩ := h; exact ⟨vs, e.trans q, r.mono s⟩
  | fdc ws => obtain ⟨o, vs, q, r⟩ := h; exact ⟨o, vs, e.trans q, r.mono s⟩
  | ins c fs => obtain ⟨dx, vs, q, r⟩ := h; exact ⟨dx, vs, e.trans q, r.mono s⟩
theorem EnvR.mono {env : Env} {σ : L2.St} (s : Stp m H m' H') (h : EnvR K A m H env σ) : EnvR K A m' H' env σ :=
  ⟨h.1, fun i w e => let ⟨v, q, r⟩ := h.2 i w e; ⟨v, q, r.mono s⟩⟩
theorem RelWs.length : ∀ {ws : List W} {vs : List V}, RelWs K A m H ws vs → ws.length = vs.length
  | [], _, h => by rw [(show _ = [] from h)]; rfl
  | _ :: _, _, ⟨_, r, e, _, t⟩ => by rw [e, List.length_cons, List.length_cons, t.length]
theorem RelWs.get : ∀ {ws : List W} {vs : List V} {i : Nat} {w : W}, RelWs K A m H ws vs → ws[i]? = some w → ∃ v, vs[i]? = some v ∧ RelW K A m H w v
  | [], _, _, _, _, h => by simp at h
  | _ :: _, _, 0, _, ⟨v, r, e, q, t⟩, h => by simp at h; subst h; exact ⟨v, by rw [e]; rfl, q⟩
  | _ :: _, _, i + 1, _, ⟨v, r, e, q, t⟩, h => by
    obtain ⟨u, hu, ru⟩ := RelWs.get (i := i) t (by simpa using h)
    exact ⟨u, by rw [e]; simpa using hu, ru⟩
theorem RelWs.append : ∀ {ws us : List W} {vs xs : List V}, RelWs K A m H ws vs → RelWs K A m H us xs → RelWs K A m H (ws ++ us) (vs ++ xs)
  | [], _, _, _, h, q => by rw [(show _ = [] from h)]; exact q
  | _ :: _, _, _, _, ⟨v, r, e, z, t⟩, q => ⟨v, r ++ _, by rw [e]; rfl, z, t.append q⟩
theorem RelWs.take : ∀ (n : Nat) {ws : List W} {vs : List V}, RelWs K A m H ws vs → RelWs K A m H (ws.take n) (vs.take n)
  | 0, _, _, _ => by simp [RelWs]
  | _ + 1, [], _, h => by rw [(show _ = [] from h)]; simp [RelWs]
  | n + 1, _ :: _, _, ⟨v, r, e, z, t⟩ => ⟨v, r.take n, by rw [e]; rfl, z, t.take n⟩
theorem RelWs.drop : ∀ (n : Nat) {ws : List W} {vs : List V}, RelWs K A m H ws vs → RelWs K A m H (ws.drop n) (vs.drop n)
  | 0, _, _, h => by simpa using h
  | _ + 1, [], _, h => by rw [(show _ = [] from h)]; simp [RelWs]
  | n + 1, _ :: _, _, ⟨v, r, e, z, t⟩ => by rw [e]; simpa using t.drop n
theorem RelWs.set : ∀ {ws : List W} {vs : List V} (i : Nat) {w : W} {v : V}, RelW K A m H w v → RelWs K A m H ws vs → RelWs K A m H (ws.set i w) (vs.set i v)
  | [], _, _, _, _, _, h => by rw [(show _ = [] from h)]; simp [RelWs]
  | _ :: _, _, 0, _, v', q, ⟨v, r, e, z, t⟩ => by rw [e]; exact ⟨v', r, rfl, q, t⟩
  | _ :: _, _, i + 1, _, v', q, ⟨v, r, e, z, t⟩ => by rw [e]; exact ⟨v, r.set i v', rfl, z, t.set i q⟩
theorem RelWs.nil : RelWs K A m H [] [] := rfl
theorem RelWs.cons {w : W} {v : V} {ws : List W} {vs : List V} (q : RelW K A m H w v) (r : RelWs K A m H ws vs) : RelWs K A m H (w :: ws) (v :: vs) := ⟨v, vs, rfl, q, r⟩
end

/-! ## Changing the heap -/
section
variable {K : PySem.W.Frag} {A : Nm} {m : Mp} {h : Hs} {H : Hp}
theorem getE_lt {α : Type} {l : List α} {i : Nat} {x : α} (e : l[i]? = some x) : i < l.length := by
  rcases Nat.lt_or_ge i l.length with k | k
  · exact k
  · rw [List.getElem?_eq_none k] at e; cases e
theorem HRel.addr (R : HRel K A m h H) {r : Nat} {c : Cell} (e : h[r]? = some c) : ∃ a, m[r]? = some a ∧ CellOk K A m H a c := by
  have k : r < m.length := by rw [R.len]; exact getE_lt e
  exact ⟨m[r], List.getElem?_eq_getElem k, R.cell r c _ e (List.getElem?_eq_getElem k)⟩
theorem HRel.mem (R : HRel K A m h H) {a : Addr} (e : a ∈ m) : ∃ (r : Nat) (c : Cell), m[r]? = some a ∧ h[r]? = some c ∧ CellOk K A m H a c := by
  obtain ⟨r, k, q⟩ := List.mem_iff_getElem.mp e
  have k2 : r < h.length := by rw [← R.len]; exact k
  have e1 : m[r]? = some a := by rw [List.getElem?_eq_getElem k, q]
  exact ⟨r, h[r], e1, List.getElem?_eq_getElem k2, R.cell r _ a (List.getElem?_eq_getElem k2) e1⟩
theorem CellOk.notTup {a : Addr} {c : Cell} (k : CellOk K A m H a c) {vs : List V} : ¬ Rd H a (.tup vs) := by
  intro z
  cases c with
  | lst ws => obtain ⟨us, q, _⟩ := k; rcases z with z | ⟨o, z⟩ <;> rw [q] at z <;> cases z
  | frz ws => obtain ⟨o, us, q, _⟩ := k; rcases z with z | ⟨o, z⟩ <;> rw [q] at z <;> cases z
  | dct ws => obtain ⟨us, q, _⟩ := k; rcases z with z | ⟨o, z⟩ <;> rw [q] at z <;> cases z
  | fdc ws => obtain ⟨o, us, q, _⟩ := k; rcases z with z | ⟨o, z⟩ <;> rw [q] at z <;> cases z
  | ins c fs => obtain ⟨dx, us, q, _⟩ := k; rcases z with z | ⟨o, z⟩ <;> rw [q] at z <;> cases z
theorem HRel.has (R : HRel K A m h H) {a : Addr} (e : a ∈ m) : ∃ o, H a = some o := by
  obtain ⟨r, c, _, _, k⟩ := R.mem e
  cases c with
  | lst ws => obtain ⟨us, q, _⟩ := k; exact ⟨_, q⟩
  | frz ws => obtain ⟨o, us, q, _⟩ := k; exact ⟨_, q⟩
  | dct ws => obtain ⟨us, q, _⟩ := k; exact ⟨_, q⟩
  | fdc ws => obtain ⟨o, us, q, _⟩ := k; exact ⟨_, q⟩
  | ins c fs => obtain ⟨dx, us, q, _⟩ := k; exact ⟨_, q⟩
theorem mem_of_get {α : Type} {l : List α} {i : Nat} {x : α} (e : l[i]? = some x) : x ∈ l := List.mem_of_getElem? e
/-- a new object that the map does not know -/
theorem Stp.laid {a : Addr} {o : HO} (n : H a = none) : Stp m H m (upd H a o) where
  pre := fun _ _ e => e
  fz := fun b _ u e => by rw [upd_ne (ne_of_none e n)]; exact e
  fr := fun b u e _ => by rw [upd_ne (ne_of_none e n)]; exact e
  tp := fun b vs z => by
    rcases z with z | ⟨u, z⟩
    · exact .inl (by rw [upd_ne (ne_of_none z n)]; exact z)
    · exact .inr ⟨u, by rw [upd_ne (ne_of_none z n)]; exact z⟩
  nw := fun _ k => .inl k
theorem HRel.laid (R : HRel K A m h H) {a : Addr} {o : HO} (n : H a = none) : HRel K A m h (upd H a o) where
  len := R.len
  nd := R.nd
  cell := fun r c b e1 e2 => (R.cell r c b e1 e2).mono (Stp.laid n) (upd_ne fun z => by
    obtain ⟨u, q⟩ := R.has (mem_of_get e2)
    rw [z, n] at q; cases q)
/-- a new object that the map knows -/
theorem Stp.grown {a : Addr} {o : HO} (n : H a = none) : Stp m H (m ++ [a]) (upd H a o) where
  fz := fun b _ u e => by rw [upd_ne (ne_of_none e n)]; exact e
  pre := fun r b e => by rw [List.getElem?_append_left (getE_lt e)]; exact e
  fr := fun b u e _ => by rw [upd_ne (ne_of_none e n)]; exact e
  tp := (Stp.laid (m := m) n).tp
  nw := fun b k => by
    rcases List.mem_append.mp k with k | k
    · exact .inl k
    · rw [List.mem_singleton.mp k]; exact .inr n
theorem HRel.grown (R : HRel K A m h H) {a : Addr} {o : HO} {c : Cell} (n : H a = none) (k : CellOk K A (m ++ [a]) (upd H a o) a c) : HRel K A (m ++ [a]) (h ++ [c]) (upd H a o) where
  len := by rw [List.length_append, List.length_append, R.len]; rfl
  nd := List.nodup_append.mpr ⟨R.nd, by simp, fun x hx y hy e => by
    obtain ⟨u, q⟩ := R.has hx
    rw [List.mem_singleton.mp hy] at e
    rw [e, n] at q; cases q⟩
  cell := fun r c' b e1 e2 => by
    by_cases hr : r < h.length
    · rw [List.getElem?_append_left hr] at e1
      rw [List.getElem?_append_left (by rw [R.len]; exact hr)] at e2
      exact (R.cell r c' b e1 e2).mono (Stp.grown n) (upd_ne fun z => by
        obtain ⟨u, q⟩ := R.has (mem_of_get e2)
        rw [z, n] at q; cases q)
    · have lt := getE_lt e1
      rw [List.length_append, List.length_singleton] at lt
      have er : r = h.length := by omega
      subst er
      rw [List.getElem?_append_right (Nat.le_refl _), Nat.sub_self] at e1
      rw [← R.len, List.getElem?_append_right (Nat.le_refl _), Nat.sub_self] at e2
      cases e1; cases e2; exact k
theorem grown_at {a : Addr} (R : HRel K A m h H) : (m ++ [a])[h.length]? = some a := by
  rw [← R.len, List.getElem?_append_right (Nat.le_refl _), Nat.sub_self]; rfl
mutual
theorem rel_more {K : PySem.W.Frag} {A : Nm} {m m' : Mp} {H : Hp} (pre : ∀ (r : Nat) a, m[r]? = some a → m'[r]? = some a) : ∀ (w : W) (v : V), RelW K A m H w v → RelW K A m' H w v
  | .non, _, h => h
  | .bl _, _, h => h
  | .int _, _, h => h
  | .str _, _, h => h
  | .tup ws, _, h => by
    obtain ⟨a, vs, e, q, r⟩ := (show ∃ a vs, _ = V.ref a ∧ SqT K H a vs ∧ RelWs K A m H ws vs from h)
    exact ⟨a, vs, e, q, rels_more pre ws vs r⟩
  | .ref r, _, h => by
    obtain ⟨a, e, q⟩ := (show ∃ a, m[r]? = some a ∧ _ = V.ref a from h)
    exact ⟨a, pre _ _ e, q⟩
  | .fn _, _, h => h
  | .cls _, _, h => h
  | .exn _ _, _, h => h
theorem rels_more {K : PySem.W.Frag} {A : Nm} {m m' : Mp} {H : Hp} (pre : ∀ (r : Nat) a, m[r]? = some a → m'[r]? = some a) : ∀ (ws : List W) (vs : List V), RelWs K A m H ws vs → RelWs K A m' H ws vs
  | [], _, h => h
  | w :: ws, _, h => by
    obtain ⟨v, r, e, q, z⟩ := (show ∃ v r, _ = v :: r ∧ RelW K A m H w v ∧ RelWs K A m H ws r from h)
    exact ⟨v, r, e, rel_more pre w v q, rels_more pre ws r z⟩
end
theorem relKV_more {K : PySem.W.Frag} {A : Nm} {m m' : Mp} {H : Hp} (pre : ∀ (r : Nat) a, m[r]? = some a → m'[r]? = some a) : ∀ (ps : List (W × W)) (ks : List (Key × V)), RelKV K A m H ps ks → RelKV K A m' H ps ks
  | [], _, h => h
  | _ :: _, _, ⟨k, v, r, e, q, z, t⟩ => ⟨k, v, r, e, q, rel_more pre _ _ z, relKV_more pre _ _ t⟩
theorem relFs_more {K : PySem.W.Frag} {A : Nm} {m m' : Mp} {H : Hp} (pre : ∀ (r : Nat) a, m[r]? = some a → m'[r]? = some a) : ∀ (ps : List (Nat × W)) (ks : List (Str × V)), RelFs K A m H ps ks → RelFs K A m' H ps ks
  | [], _, h => h
  | _ :: _, _, ⟨v, r, e, z, t⟩ => ⟨v, r, e, rel_more pre _ _ z, relFs_more pre _ _ t⟩
theorem cell_more {K : PySem.W.Frag} {A : Nm} {m m' : Mp} {H : Hp} (pre : ∀ (r : Nat) a, m[r]? = some a → m'[r]? = some a) {a : Addr} {c : Cell} (h : CellOk K A m H a c) : CellOk K A m' H a c := by
  cases c with
  | lst ws => obtain ⟨vs, q, r⟩ := h; exact ⟨vs, q, rels_more pre _ _ r⟩
  | frz ws => obtain ⟨o, vs, q, r⟩ := h; exact ⟨o, vs, q, rels_more pre _ _ r⟩
  | dct ws => obtain ⟨vs, q, r⟩ := h; exact ⟨vs, q, relKV_more pre _ _ r⟩
  | fdc ws => obtain ⟨o, vs, q, r⟩ := h; exact ⟨o, vs, q, relKV_more pre _ _ r⟩
  | ins c fs => obtain ⟨dx, vs, q, r⟩ := h; exact ⟨dx, vs, q, relFs_more pre _ _ r⟩
/-- the map learns an object that stands already -/
theorem HRel.moreC (R : HRel K A m h H) {D : Addr} {c : Cell} (nD : D ∉ m) (k : CellOk K A (m ++ [D]) H D c) : HRel K A (m ++ [D]) (h ++ [c]) H where
  len := by rw [List.length_append, List.length_append, R.len]; rfl
  nd := List.nodup_append.mpr ⟨R.nd, by simp, fun x hx y hy e => by rw [List.mem_singleton.mp hy] at e; exact nD (e ▸ hx)⟩
  cell := fun q c' b e1 e2 => by
    by_cases hr : q < h.length
    · rw [List.getElem?_append_left hr] at e1
      rw [List.getElem?_append_left (by rw [R.len]; exact hr)] at e2
      exact cell_more (fun r a e => by rw [List.getElem?_append_left (getE_lt e)]; exact e) (R.cell q c' b e1 e2)
    · have lt := getE_lt e1
      rw [List.length_append, List.length_singleton] at lt
      have er : q = h.length := by omega
      subst er
      rw [List.getElem?_append_right (Nat.le_refl _), Nat.sub_self] at e1
      rw [← R.len, List.getElem?_append_right (Nat.le_refl _), Nat.sub_self] at e2
      cases e1; cases e2; exact k
theorem HRel.more (R : HRel K A m h H) {D : Addr} {ws : List W} {vs : List V} (hD : H D = some (.lst vs)) (nD : D ∉ m) (r : RelWs K A (m ++ [D]) H ws vs) : HRel K A (m ++ [D]) (h ++ [.lst ws]) H := R.moreC nD ⟨vs, hD, r⟩
/-- an object written -/
theorem Stp.wrote {r : Nat} {a : Addr} {o : HO} (e : m[r]? = some a) (nt : ∀ vs, ¬ Rd H a (.tup vs)) (nf : ∀ o u, H a ≠ some (.frz o u)) : Stp m H m (upd H a o) where
  fz := fun b v u q => by rw [upd_ne (fun z => nf v u (by rw [← z]; exact q))]; exact q
  pre := fun _ _ e => e
  fr := fun b u q k => by rw [upd_ne (fun z => k (by rw [z]; exact mem_of_get e))]; exact q
  tp := fun b vs z => by
    have hb : b ≠ a := fun q => nt vs (q ▸ z)
    rcases z with z | ⟨u, z⟩
    · exact .inl (by rw [upd_ne hb]; exact z)
    · exact .inr ⟨u, by rw [upd_ne hb]; exact z⟩
  nw := fun _ k => .inl k
theorem nodup_get {α : Type} {l : List α} (nd : l.Nodup) {i j : Nat} {x : α} (a : l[i]? = some x) (b : l[j]? = some x) : i = j := by
  obtain ⟨h1, e1⟩ := List.getElem?_eq_some_iff.mp a
  obtain ⟨h2, e2⟩ := List.getElem?_eq_some_iff.mp b
  exact (List.getElem_inj nd).mp (e1.trans e2.symm)
theorem HRel.wrote (R : HRel K A m h H) {r : Nat} {a : Addr} {o : HO} {c c' : Cell} (e : m[r]? = some a) (ec : h[r]? = some c) (nf : ∀ o u, H a ≠ some (.frz o u)) (k : Stp m H m (upd H a o) → CellOk K A m (upd H a o) a c') : HRel K A m (h.set r c') (upd H a o) := by
  have s : Stp m H m (upd H a o) := Stp.wrote e (fun vs => (R.cell r c a ec e).notTup) nf
  refine ⟨by rw [List.length_set]; exact R.len, R.nd, fun q d b e1 e2 => ?_⟩
  by_cases hq : q = r
  · subst hq
    rw [e] at e2; cases e2
    rw [List.getElem?_set_self (getE_lt ec)] at e1
    cases e1
    exact k s
  · rw [List.getElem?_set_ne (Ne.symm hq)] at e1
    exact (R.cell q d b e1 e2).mono s (upd_ne fun z => hq (nodup_get R.nd (z ▸ e2) e))
end
end MP
end

section
set_option Elab.async false
set_option linter.all false
set_option maxRecDepth 100000
set_option maxHeartbeats 4000000
/-! MiniPy: outcomes, the weakest readings. -/
namespace MP
open PySem PySem.Spec PyProof.Rows L2

section
variable (K : PySem.W.Frag) (A : Nm) (T : Tab)
/-- the attributes of an exception of the class c -/
def RelX (m : Mp) (H : Hp) (c : Nat) (vs : List W) (gs : List (Str × V)) : Prop :=
  ∃ fs, T.exf c = some fs ∧ fs.length = vs.length ∧ ∀ (k : Nat) f w, fs[k]? = some f → vs[k]? = some w → ∃ v, gs.lookup (A.fn f) = some v ∧ RelW K A m H w v
def Out {α β : Type} (Rl : Mp → Hp → α → β → Prop) (m : Mp) (H : Hp) (r : R α) (Q : β → Hp → Prop) (E : XK) : Prop := match r with
  | .ok w h' => ∀ m' H' v, Stp m H m' H' → HRel K A m' h' H' → Rl m' H' w v → Q v H'
  | .raise c vs h' => ∀ m' H' d gs, Stp m H m' H' → HRel K A m' h' H' → H' d = some (.xd gs) → RelX K A T m' H' c vs gs → E (.ref (A.ca c)) (some d) H'
  | .stuck => False
abbrev OutW := Out K A T (RelW K A)
abbrev OutL := Out K A T (RelWs K A)
end

section
variable {K : PySem.W.Frag} {A : Nm} {T : Tab} {α β γ δ : Type} {Rl : Mp → Hp → α → β → Prop} {Rk : Mp → Hp → γ → δ → Prop} {m m1 : Mp} {H H1 : Hp} {r : R α} {E : XK}
theorem Out.step {Q : β → Hp → Prop} (o : Out K A T Rl m H r Q E) (s : Stp m H m1 H1) : Out K A T Rl m1 H1 r Q E := by
  cases r with
  | ok w h => exact fun m' H' v s' => o m' H' v (s.trans s')
  | raise c vs h => exact fun m' H' d gs s' => o m' H' d gs (s.trans s')
  | stuck => exact o
/-- one step, the rest of the run behind it -/
theorem Out.bind {Q : δ → Hp → Prop} {Q1 : β → Hp → Prop} {f : α → Hs → R γ} (o : Out K A T Rk m H (r.bind f) Q E)
    (k : ∀ w h1 m1 H1 v, r = .ok w h1 → Stp m H m1 H1 → HRel K A m1 h1 H1 → Rl m1 H1 w v → Out K A T Rk m1 H1 (f w h1) Q E → Q1 v H1) : Out K A T Rl m H r Q1 E := by
  cases r with
  | ok w h => exact fun m' H' v s hr hv => k w h m' H' v rfl s hr hv (Out.step (show Out K A T Rk m H (f w h) Q E from o) s)
  | raise c vs h => exact o
  | stuck => exact o
theorem Out.mono {Q Q1 : β → Hp → Prop} (o : Out K A T Rl m H r Q E) (k : ∀ v H', Q v H' → Q1 v H') : Out K A T Rl m H r Q1 E := by
  cases r with
  | ok w h => exact fun m' H' v s hr hv => k _ _ (o m' H' v s hr hv)
  | raise c vs h => exact o
  | stuck => exact o
theorem out_ok {w : α} {h : Hs} {v : β} {Q : β → Hp → Prop} (o : Out K A T Rl m H (.ok w h) Q E) (s : Stp m H m1 H1) (hr : HRel K A m1 h H1) (rv : Rl m1 H1 w v) : Q v H1 := o m1 H1 v s hr rv
theorem out_opt {p : Option α} {h : Hs} {Q : β → Hp → Prop} (o : Out K A T Rl m H (R.opt h p) Q E) : ∃ w, p = some w ∧ Out K A T Rl m H (.ok w h) Q E := by
  cases p with
  | none => exact (show False from o).elim
  | some w => exact ⟨w, rfl, o⟩
end

/-! ## The weakest readings -/
section
variable (X : Cx)
def tE (e : Expr) : TE := fun σ H Q => ∀ pins s, Inv X pins σ H s → wpAny (model X.prog X.w) X.A (eval e X.env) (EP X pins σ Q) X.xe s
def tT (e : Expr) : TT := fun σ H Q => ∀ pins s, Inv X pins σ H s → wpAny (model X.prog X.w) X.A (isTrue e X.env (eval e X.env)) (TP X pins σ Q) X.xe s
def tA (es : List Expr) : TA := fun σ H Q => ∀ pos pins s, Inv X pins σ H s → wpAny (model X.prog X.w) X.A (spliced (backTo pos (starEach es X.env))) (AP X pins σ Q) X.xe s
def tK (kws : List Keyword) : TA := fun σ H Q => ∀ pos pins s, Inv X pins σ H s → wpAny (model X.prog X.w) X.A (evalAll ((backToKw pos (keywordEach kws X.env)).map (·.2))) (AP X pins σ Q) X.xe s
def tS (st : Stmt) : TS := fun D σ H => ∀ pins s, Inv X pins σ H s → wpAny (model X.prog X.w) X.A (exec st X.env) (SP X pins D) X.xe s
def tSs (st : List Stmt) : TS := fun D σ H => ∀ pins s, Inv X pins σ H s → wpAny (model X.prog X.w) X.A (execs st X.env) (SP X pins D) X.xe s
def tG (t : Expr) : TG := fun v σ H Q => ∀ pins s u, Inv X pins σ H s → RelV v u → wpAny (model X.prog X.w) X.A (assign t X.env u) (fun _ s' => ∃ σ' H', Inv X pins σ' H' s' ∧ Q σ' H') X.xe s
def tI (tg iter : Expr) : TI := fun σ H R => ∀ pins s, Inv X pins σ H s →
  wpAny (model X.prog X.w) X.A (eval iter X.env) (fun v s1 => wpAny (model X.prog X.w) X.A (pyIter v) (PIE X pins σ tg R) X.xe s1) X.xe s
end
section
variable {X : Cx} {e : Expr} {es : List Expr} {kws : List Keyword} {st : Stmt} {sts : List Stmt} {σ : L2.St} {H : Hp}
theorem pe_w : PE X e (tE X e) := ⟨fun pins s _ _ _ I h => h pins s I⟩
theorem pt_w : PT X e (tT X e) := ⟨fun pins s _ _ _ I h => h pins s I⟩
theorem pa_w : PA X es (tA X es) := ⟨fun pos pins s _ _ _ I h => h pos pins s I⟩
theorem pk_w : PK X kws (tK X kws) := ⟨fun pos pins s _ _ _ I h => h pos pins s I⟩
theorem ps_w : PS X st (tS X st) := ⟨fun pins s _ _ _ I h => h pins s I⟩
theorem pss_w : PSs X sts (tSs X sts) := ⟨fun pins s _ _ _ I h => h pins s I⟩
theorem pg_w : PG X e (tG X e) := ⟨fun pins s _ _ _ u _ I r h => h pins s u I r⟩
theorem pi_w {tg : Expr} : PI X tg e (tI X tg e) := ⟨fun pins s _ _ _ I h => h pins s I⟩
theorem tE_of {t : TE} {Q : VK} (h : PE X e t) (q : t σ H Q) : tE X e σ H Q := fun pins s I => h.run pins s σ H Q I q
theorem tT_of {t : TT} {Q : Bool → Hp → Prop} (h : PT X e t) (q : t σ H Q) : tT X e σ H Q := fun pins s I => h.run pins s σ H Q I q
theorem tA_of {t : TA} {Q : List V → Hp → Prop} (h : PA X es t) (q : t σ H Q) : tA X es σ H Q := fun pos pins s I => h.run pos pins s σ H Q I q
theorem tK_of {t : TA} {Q : List V → Hp → Prop} (h : PK X kws t) (q : t σ H Q) : tK X kws σ H Q := fun pos pins s I => h.run pos pins s σ H Q I q
theorem tS_of {t : TS} {D : Ends} (h : PS X st t) (q : t D σ H) : tS X st D σ H := fun pins s I => h.run pins s σ H D I q
theorem tSs_of {t : TS} {D : Ends} (h : PSs X sts t) (q : t D σ H) : tSs X sts D σ H := fun pins s I => h.run pins s σ H D I q
theorem tI_of {tg : Expr} {t : TI} {R : It → Hp → Prop} (h : PI X tg e t) (q : t σ H R) : tI X tg e σ H R := fun pins s I => h.run pins s σ H R I q
/-- by values, at a state -/
theorem tE_raw {Q : VK} (h : ∀ pins s, Inv X pins σ H s → wpAny (model X.prog X.w) X.A (eval e X.env) (EP X pins σ Q) X.xe s) : tE X e σ H Q := h
end
end MP
end

section
set_option Elab.async false
set_option linter.all false
set_option maxRecDepth 100000
set_option maxHeartbeats 4000000
/-! MiniPy: the tie to the syntax tree (a Bool), what follows of it. -/
namespace MP
open PySem PySem.Spec PyProof.Rows L2

/-- the names of the text -/
structure Glo where
  gf : List (Str × Nat)
  gc : List (Str × Nat)
  gv : List (Str × Nat)
  mi : List (Str × Nat)
  fi : List (Str × Nat)
  free : List Str
  par : List (List Str)
  kwp : List (Nat × Nat × List Str × List Nat)
  dfp : List (Nat × Nat × List Int)
  mfs : List (Nat × List Nat)
  cfs : List (Nat × Nat)
  exs : List Nat

def good : Expr → Bool
  | .Set .. | .Starred .. | .Slice .. => false
  | _ => true
def notC0 : Expr → Bool
  | .Call (.Name _ _) [] [] _ => false
  | _ => true
/-- no conditional expression (as a test) -/
def notIte : Expr → Bool
  | .IfExp .. => false
  | _ => true
def notComp : Expr → Bool
  | .ListComp .. | .SetComp .. | .DictComp .. => false
  | _ => true

section
variable (G : Glo) (N : List Str)
section
variable (sc : Scope)
def kV (x : Str) : Bool := match sc.names.lookup x with
  | some .local | some .cell | some .free => true
  | _ => false
def nmV (x : Str) (i : Nat) : Bool := decide (N[i]? = some x) && kV sc x && !(x == ("__debug__" : Str)) && !(x == ("__classdict__" : Str))
def nmG (x : Str) : Bool := decide (sc.names.lookup x = some .globalImplicit) && !(x == ("__debug__" : Str))
def nmB (x : Str) (b : Str) : Bool := decide (x = b) && nmG sc x && G.free.contains x && !decide (x = ("__name__" : Str))
def kL (x : Str) : Bool := match sc.names.lookup x with
  | some .local | some .cell => true
  | _ => false
def trTg : Tg → Expr → Bool
  | .name i, .Name x _ => decide (N[i]? = some x) && kL sc x
  | _, _ => false
mutual
def trT : Tg → Expr → Bool
  | .name i, e => trTg N sc (.name i) e
  | .nil, .Tuple [] _ _ => true
  | .cons t r, .Tuple (e :: es) _ _ => trT t e && trTs r es
  | _, _ => false
def trTs : Tg → List Expr → Bool
  | .nil, [] => true
  | .cons t r, e :: es => trT t e && trTs r es
  | _, _ => false
end
def opIs : Op2 → Operator → Bool
  | .add, .Add | .sub, .Sub | .mul, .Mult | .fdiv, .FloorDiv | .mod, .Mod | .pow, .Pow | .shl, .LShift | .shr, .RShift | .band, .BitAnd | .bor, .BitOr | .bxor, .BitXor => true
  | _, _ => false
def cmIs : Cm → CmpOp → Bool
  | .lt, .Lt | .le, .LtE | .gt, .Gt | .ge, .GtE | .eq, .Eq | .ne, .NotEq => true
  | _, _ => false
def trTy : Ty → Expr → Bool
  | .int, .Name x _ => nmB G sc x "int"
  | .bool, .Name x _ => nmB G sc x "bool"
  | .str, .Name x _ => nmB G sc x "str"
  | .list, .Name x _ => nmB G sc x "list"
  | .tuple, .Name x _ => nmB G sc x "tuple"
  | .dict, .Name x _ => nmB G sc x "dict"
  | .lt, .Tuple [.Name x _, .Name y _] _ _ => nmB G sc x "list" && nmB G sc y "tuple"
  | .cls c, .Name x _ => nmG sc x && decide (G.gc.lookup x = some c)
  | .verr, .Name x _ => nmB G sc x "ValueError"
  | _, _ => false
def bmN : Bm → Str
  | .append => "append" | .extend => "extend" | .pop => "pop" | .popAt => "pop" | .index => "index" | .insert => "insert" | .remove => "remove" | .get => "get" | .get2 => "get" | .setdefault => "setdefault" | .update => "update"
def bmOk : Bm → Bool
  | .append | .pop | .popAt | .index | .get | .get2 => true
  | _ => false
def lbN : Lb → Str
  | .all => "all" | .any => "any" | .len => "len" | .sum => "sum" | .min => "min" | .max => "max" | .tuple => "tuple" | .dict => "dict" | .lenSet => "len"
def biN : Bi → Str
  | .len => "len" | .abs => "abs" | .int => "int" | .min2 => "min" | .max2 => "max" | .isi _ => "isinstance" | .tuple => "tuple" | .str => "str"
def isK (k : Option Bool) (c : Const) : Bool := match k, c with
  | none, .none => true
  | some b, .bool d => b == d
  | _, _ => false
def kwOk (kws : List Keyword) : Bool := kws.all fun k => k.arg.isSome
/-- the keywords' call is one that is listed: n positional values, the keywords, the permutation to the parameters' order -/
def permOk (f n : Nat) (kws : List Keyword) (p : List Nat) : Bool := kwOk kws && G.kwp.contains (f, n, kws.filterMap (·.arg), p)
end

/-- a comprehension's block within a scope -/
def trB (sc sc' : Scope) (ws : List Nat) : Bool := blkC N sc sc' (ws.filterMap fun i => (N[i]?).map fun x => (x, i)) && decide ((ws.filterMap fun i => (N[i]?).map fun x => (x, i)).map (·.2) = ws)
/-! the forms of an expression -/
def asName : Expr → Option (Str × Pos) | .Name x p => some (x, p) | _ => none
def asConst : Expr → Option (Const × Nat × Pos) | .Constant c j p => some (c, j, p) | _ => none
def asBin : Expr → Option (Expr × Operator × Expr × Pos) | .BinOp l p r q => some (l, p, r, q) | _ => none
def asUn : Expr → Option (UnaryOp × Expr × Pos) | .UnaryOp u x q => some (u, x, q) | _ => none
def asCmp : Expr → Option (Expr × CmpOp × Expr × Pos) | .Compare l [p] [r] q => some (l, p, r, q) | _ => none
def asCmp2 : Expr → Option (Expr × CmpOp × CmpOp × Expr × Expr × Pos) | .Compare l [p, p2] [r, s] q => some (l, p, p2, r, s, q) | _ => none
def asCmp3 : Expr → Option (Expr × CmpOp × CmpOp × CmpOp × Expr × Expr × Expr × Pos) | .Compare l [p, p2, p3] [r, s, t] q => some (l, p, p2, p3, r, s, t, q) | _ => none
def asAnd : Expr → Option (Expr × Expr × List Expr × Pos) | .BoolOp .And (v :: w :: ws) q => some (v, w, ws, q) | _ => none
def asOr : Expr → Option (Expr × Expr × List Expr × Pos) | .BoolOp .Or (v :: w :: ws) q => some (v, w, ws, q) | _ => none
def asIf : Expr → Option (Expr × Expr × Expr × Pos) | .IfExp t x y q => some (t, x, y, q) | _ => none
def asTup : Expr → Option (List Expr × Nat × Pos) | .Tuple xs n q => some (xs, n, q) | _ => none
def asList : Expr → Option (List Expr × Pos) | .List xs q => some (xs, q) | _ => none
def asSub : Expr → Option (Expr × Expr × Pos) | .Subscript v s q => some (v, s, q) | _ => none
def asSlice : Expr → Option (Expr × Option Expr × Option Expr × Pos × Pos) | .Subscript v (.Slice l u none p) q => some (v, l, u, p, q) | _ => none
def asAttr : Expr → Option (Expr × Str × Pos) | .Attribute v x q => some (v, x, q) | _ => none
def asCall : Expr → Option (Str × Pos × List Expr × List Keyword × Pos) | .Call (.Name x p) xs kws q => some (x, p, xs, kws, q) | _ => none
def asMeth : Expr → Option (Expr × Str × Pos × List Expr × List Keyword × Pos) | .Call (.Attribute o x p) xs kws q => some (o, x, p, xs, kws, q) | _ => none
def asDict0 : Expr → Option Pos | .Dict [] [] q => some q | _ => none
def asLC : Expr → Option (Expr × Expr × Expr × List Expr × Scope × Pos) | .ListComp el [⟨tg, it, ifs, 0⟩] s q => some (el, tg, it, ifs, s, q) | _ => none
def asDC : Expr → Option (Expr × Expr × Expr × Expr × List Expr × Scope × Pos) | .DictComp ke ve [⟨tg, it, ifs, 0⟩] s q => some (ke, ve, tg, it, ifs, s, q) | _ => none
mutual
def trE (sc : Scope) : Ex → Expr → Bool
  | .var i, e => match asName e with | some (x, _) => nmV N sc x i | none => false
  | .non, e => match asConst e with | some (.none, _, _) => true | _ => false
  | .bl b, e => match asConst e with | some (.bool c, _, _) => b == c | _ => false
  | .int i, e => match asConst e with | some (.int j, _, _) => decide (i = j) | _ => false
  | .str x, e => match asConst e with | some (.str y, _, _) => decide (x = y) | _ => false
  | .glob g, e => match asName e with | some (x, _) => nmG sc x && decide (G.gv.lookup x = some g) | none => false
  | .op o a b, e => match asBin e with | some (l, p, r, _) => opIs o p && trE sc a l && trE sc b r | none => false
  | .neg a, e => match asUn e with | some (.USub, x, _) => trE sc a x | _ => false
  | .cmp c a b, e => match asCmp e with | some (l, p, r, _) => cmIs c p && trE sc a l && trE sc b r | none => false
  | .chain a c b d f, e => match asCmp2 e with | some (l, p, q, r, s, _) => cmIs c p && cmIs d q && trE sc a l && trE sc b r && trE sc f s | none => false
  | .chain3 a c b d f k g, e => match asCmp3 e with | some (l, p, q, p3, r, s, t, _) => cmIs c p && cmIs d q && cmIs k p3 && trE sc a l && trE sc b r && trE sc f s && trE sc g t | none => false
  | .isC pos k a, e => match asCmp e with | some (l, p, .Constant c _ _, _) => (match p with | .Is => pos | .IsNot => !pos | _ => false) && isK k c && trE sc a l | _ => false
  | .and a b, e => match asAnd e with | some (v, w, ws, pos) => notIte v && trE sc a v && (match ws with | [] => notIte w && trE sc b w | u :: us => trE sc b (.BoolOp .And (w :: u :: us) pos)) | none => false
  | .or a b, e => match asOr e with | some (v, w, ws, pos) => notIte v && trE sc a v && (match ws with | [] => notIte w && trE sc b w | u :: us => trE sc b (.BoolOp .Or (w :: u :: us) pos)) | none => false
  | .not a, e => match asUn e with | some (.Not, x, _) => notIte x && trE sc a x | _ => false
  | .ite c a b, e => match asIf e with | some (t, x, y, _) => notIte t && trE sc c t && trE sc a x && trE sc b y | none => false
  | .tup es, e => match asTup e with | some (xs, _, _) => trEs sc es xs | none => false
  | .idx a i, e => match asSub e with | some (v, s, _) => trE sc a v && trE sc i s | none => false
  | .slc a lo hi, e => match asSlice e with | some (v, l, h, _, _) => trE sc a v && trO sc lo l && trO sc hi h | none => false
  | .fld a f, e => match asAttr e with | some (v, x, _) => decide (G.fi.lookup x = some f) && notC0 v && trE sc a v | none => false
  | .call f es, e => match asCall e with | some (x, _, xs, kws, _) => kws.isEmpty && nmG sc x && decide (G.gf.lookup x = some f) && trEs sc es xs | none => false
  | .callK f p es, e => match asCall e with | some (x, _, xs, kws, _) => nmG sc x && decide (G.gf.lookup x = some f) && permOk G f xs.length kws p && trEs sc es (xs ++ kws.map fun k => k.value) | none => false
  | .callD f ds es, e => match asCall e with | some (x, _, xs, kws, _) => kws.isEmpty && nmG sc x && decide (G.gf.lookup x = some f) && G.dfp.contains (f, xs.length, ds) && trEs sc es xs | none => false
  | .new c es, e => match asCall e with | some (x, _, xs, kws, _) => kws.isEmpty && nmG sc x && decide (G.gc.lookup x = some c) && (G.cfs.lookup c).isSome && trEs sc es xs | none => false
  | .newK c p es, e => match asCall e with | some (x, _, xs, kws, _) => nmG sc x && decide (G.gc.lookup x = some c) && (match G.cfs.lookup c with | some f => permOk G f (xs.length + 1) kws (0 :: p.map (· + 1)) | none => false) && trEs sc es (xs ++ kws.map fun k => k.value) | none => false
  | .meth a m es, e => match asMeth e with | some (o, x, ap, xs, kws, pos) => kws.isEmpty && decide (G.mi.lookup x = some m) && notC0 o && (ap.endLine == pos.line) && decide (xs.length < 20) && trE sc a o && trEs sc es xs | none => false
  | .methK a m p es, e => match asMeth e with | some (o, x, ap, xs, kws, pos) => decide (G.mi.lookup x = some m) && notC0 o && (ap.endLine == pos.line) && decide (xs.length + kws.length < 20) && (match G.mfs.lookup m with | some fs => kwOk kws && fs.all fun f => permOk G f (xs.length + 1) kws (0 :: p.map (· + 1)) | none => false) && trE sc a o && trEs sc es (xs ++ kws.map fun k => k.value) | none => false
  | .bi b es, e => match asCall e with | some (x, _, xs, kws, _) => kws.isEmpty && (match b with
      | .isi t => (match xs with | [y, z] => nmB G sc x "isinstance" && trTy G sc t z && trEs sc es [y] | _ => false)
      | b => nmB G sc x (biN b) && trEs sc es xs) | none => false
  | .bm b a es, e => match asMeth e with | some (o, x, ap, xs, kws, pos) => kws.isEmpty && bmOk b && decide (x = bmN b) && notC0 o && (ap.endLine == pos.line) && decide (xs.length < 20) && trE sc a o && trEs sc es xs | none => false
  | .lb b s, e => match asCall e with | some (x, _, [y], kws, _) => kws.isEmpty && nmB G sc x (lbN b) && trQ sc s y | _ => false
  | .lst l, e => trL sc l e
  | .eqS pos a b, e => match asCmp e with | some (l, p, r, _) => (match p with | .Eq => pos | .NotEq => !pos | _ => false) && trQ sc a l && trQ sc b r | none => false
  | .inS pos a s, e => match asCmp e with | some (l, p, r, _) => (match p with | .In => pos | .NotIn => !pos | _ => false) && trE sc a l && trQ sc s r | none => false
  | .dct0, e => (asDict0 e).isSome
  | .dcomp k v t s c ws, e => match asDC e with | some (ke, ve, tg, it, ifs, sc', _) => trSr sc s it && trB N sc sc' ws && trT N sc' t tg && trC sc' c ifs && trE sc' k ke && trE sc' v ve | none => false
def trEs (sc : Scope) : Exs → List Expr → Bool
  | .nil, xs => xs.isEmpty
  | .cons e es, xs => match xs with | x :: xs => trE sc e x && trEs sc es xs | [] => false
def trQ (sc : Scope) : Sq → Expr → Bool
  | .val e, x => trE sc e x
  | .fresh l, x => trL sc l x
def trO (sc : Scope) : Cnd → Option Expr → Bool
  | .none, x => x.isNone
  | .some e, x => match x with | some x => trE sc e x | none => false
def trC (sc : Scope) : Cnd → List Expr → Bool
  | .none, xs => xs.isEmpty
  | .some e, xs => match xs with | [x] => notIte x && trE sc e x | _ => false
def trSr (sc : Scope) : Sr → Expr → Bool
  | .seq s, e => trQ sc s e
  | .rng es, e => match asCall e with | some (x, _, xs, kws, _) => kws.isEmpty && decide (xs.length < 3) && nmB G sc x "range" && trEs sc es xs | none => false
  | .enum _, _ => false
  | .zip _ _, _ => false
  | .items _, _ => false
  | .values _, _ => false
def trL (sc : Scope) : Le → Expr → Bool
  | .disp es, e => match asList e with | some (xs, _) => trEs sc es xs | none => false
  | .comp e t s c ws, x => match asLC x with | some (el, tg, it, ifs, sc', _) => trSr sc s it && trB N sc sc' ws && trT N sc' t tg && trC sc' c ifs && trE sc' e el | none => false
  | .ofS _, _ => false
  | .lrng es, e => match asCall e with | some (x, _, [y], kws, _) => kws.isEmpty && nmB G sc x "list" && (match asCall y with | some (z, _, xs, kws2, _) => kws2.isEmpty && nmB G sc z "range" && trEs sc es xs | none => false) | _ => false
  | .litems d, e => match asCall e with | some (x, _, [y], kws, _) => kws.isEmpty && nmB G sc x "list" && (match asMeth y with | some (o, z, ap, xs, kws2, cp) => kws2.isEmpty && xs.isEmpty && decide (z = ("items" : Str)) && notC0 o && (ap.endLine == cp.line) && trE sc d o | none => false) | _ => false
  | .sorted s, e => match asCall e with | some (x, _, [y], kws, _) => kws.isEmpty && nmB G sc x "sorted" && trQ sc s y | _ => false
  | .sortedSet s, e => match asCall e with | some (x, _, [y], kws, _) => kws.isEmpty && nmB G sc x "sorted" && (match asCall y with | some (z, _, [q], kws2, _) => kws2.isEmpty && nmB G sc z "set" && trQ sc s q | _ => false) | _ => false
  | .cat a b, e => match asBin e with | some (l, .Add, r, _) => trQ sc a l && trQ sc b r | _ => false
  | .rep a k, e => match asBin e with | some (l, .Mult, r, _) => trQ sc a l && trE sc k r | _ => false
end
end
end MP
end

section
set_option Elab.async false
set_option linter.all false
set_option maxRecDepth 100000
set_option maxHeartbeats 4000000
/-! MiniPy: what stands around; calls; the plain expressions. -/
namespace MP
open PySem PySem.Spec PyProof.Rows L2

/-- what a def of the text promises: it runs as the interpreter runs it -/
def spF (K : PySem.W.Frag) (A : Nm) (T : Tab) (cal : Nat → List W → Hs → R W) (f : Nat) (np : Nat) : Sp := fun vs H Q E =>
  vs.length = np ∧ ∃ m h ws, HRel K A m h H ∧ RelWs K A m H ws vs ∧ OutW K A T m H (cal f ws h) Q E

section
variable (P : Program) (w : World) (K : PySem.W.Frag) (mg : Str → Option Value) (base : Heap) (G : Glo) (A : Nm) (T : Tab) (cal : Nat → List W → Hs → R W) (k : Nat)
/-- a def as it stands behind the top -/
structure FOk0 (f : Nat) (ps : List Str) (fd : FuncData) : Prop where
  kp : PySem.W.keepIn K (.ref (A.fa f)) = true
  bp : ∀ us : List Value, us.length = ps.length → ∀ s : Shared, K.In s.heap → BindsTo s fd ⟨us, []⟩ (ps.zip us)
  bk : ∀ n ks p, (f, n, ks, p) ∈ G.kwp → ∀ us ws : List Value, us.length = n → ws.length = ks.length →
    ∃ xs, p.mapM (fun i => (us ++ ws)[i]?) = some xs ∧ xs.length = ps.length ∧ ∀ s : Shared, K.In s.heap → BindsTo s fd ⟨us, ks.zip ws⟩ (ps.zip xs)
  bd : ∀ n ds, (f, n, ds) ∈ G.dfp → n + ds.length = ps.length ∧ ∃ its, Vals (ds.map V.int) its ∧ ∀ us : List Value, us.length = n → ∀ s : Shared, K.In s.heap → BindsTo s fd ⟨us, []⟩ (ps.zip (us ++ its))
structure FOk (f : Nat) (ps : List Str) (fd : FuncData) : Prop extends FOk0 K G A f ps fd where
  ok : FnOk P w K mg base (L2.CX P w) k (A.fa f) fd ps (spF K A T cal f ps.length)
/-- a plain class -/
structure ClOk (c : Nat) : Prop where
  cl : Cls K (A.ca c)
  na : ∀ x i, G.fi.lookup x = some i → NoAttr K (A.ca c) (A.fn i)
  ih : PySem.W.findIn K (.ref (A.ca c)) "__class__" = some (some (.builtin "object.__class__"))
  hm : PySem.W.mroIn K (A.ca c) (.type "object") = some true
/-- what an exception's __init__ promises: its fields, in the order of the parameters -/
def spX (C : Addr) (fs : List Nat) : Sp := fun vs H Q E => ∃ a ws, vs = .ref a :: ws ∧ ws.length = fs.length ∧ H a = some (exo a C none) ∧
  ∀ d gs, H d = none → d ≠ a → (∀ (j : Nat) f v, fs[j]? = some f → ws[j]? = some v → gs.lookup (A.fn f) = some v) → Q .non (upd (upd H d (exd d gs)) a (exo a C (some d)))
/-- an exception class with its own __init__ -/
structure ExOk (c : Nat) (fs : List Nat) : Prop where
  T : OexC K (A.ca c)
  fl : fs.length ≤ 900
  xf : XfC K (A.ca c)
  xc : ExcC K (A.ca c)
  no : ∀ f, f ∈ fs → PySem.W.findIn K (.ref (A.ca c)) (A.fn f) = some none
  init : ∃ fI fd ps, PySem.W.findIn K (.ref (A.ca c)) "__init__" = some (some (.ref fI)) ∧ PySem.W.typeIn K (.ref fI) = some (.type "function") ∧ FnOk P w K mg base (L2.CX P w) 1 fI fd ps (spX A (A.ca c) fs) ∧ Binds K fd ps []
/-- what stands around, whatever the depth -/
structure Fx0 : Prop where
  ex : ∀ c fs, T.exf c = some fs → ExOk P w K mg base A c fs
  exm : ∀ c fs d, T.exf c = some fs → d ∈ G.exs → PySem.W.exmOne K (.ref (A.ca c)) (.ref (A.ca d)) = some (T.sub c d)
  exi : ∀ c fs cv, T.exf c = some fs → (∃ n, cv = Value.type n ∧ n ∈ ["bool", "int", "str", "list", "tuple", "dict", "ValueError"]) → PySem.W.kitOne K (.ref (A.ca c)) cv = some (decide (cv = .type "ValueError"))
  exj : ∀ c fs d, T.exf c = some fs → (∃ x, G.gc.lookup x = some d) → PySem.W.kitOne K (.ref (A.ca c)) (.ref (A.ca d)) = some (T.sub c d)
  gf : ∀ x f, G.gf.lookup x = some f → f < G.par.length ∧ mg x = some (.ref (A.fa f))
  gc : ∀ x c, G.gc.lookup x = some c → mg x = some (.ref (A.ca c))
  gv : ∀ x i, G.gv.lookup x = some i → ∀ w, T.glob i = some w → ∃ u v, mg x = some u ∧ RelV v u ∧ (∀ m H, RelW K A m H w v)
  free : ∀ x, G.free.contains x = true → mg x = none
  fi : ∀ x i, G.fi.lookup x = some i → A.fn i = x
  finj : ∀ i j, A.fn i = A.fn j → i = j
  cls : ∀ c, T.plain c = true → ClOk K G A c
  meth : ∀ c m f, T.meth c m = some f → T.plain c = true ∧ (∃ fs, G.mfs.lookup m = some fs ∧ f ∈ fs) ∧ f < G.par.length ∧ ∀ x, G.mi.lookup x = some m → Meth K (A.ca c) x (A.fa f) ∧ ∀ i, A.fn i ≠ x
  init : ∀ c f, T.plain c = true → T.init c = some f → G.cfs.lookup c = some f ∧ f < G.par.length ∧ Mk K (A.ca c) (A.fa f)
  kc : ∀ c f, G.cfs.lookup c = some f → PySem.W.keepIn K (.ref (A.ca c)) = true
  oeq : ∀ c f, T.eqm c = some f → T.plain c = true ∧ f < G.par.length ∧ ∀ (A' : Around) (s : Shared) (a dx : Addr) (u tv : Value) (b : Bool) (Q E : Value → Shared → Prop), K.In s.heap → s.heap.get? a = some (PySem.W.instObj (A.ca c) dx) → (∃ od, s.heap.get? dx = some od) →
    PySem.W.Looks (model P w) s.heap (typeOf u) tv → ((∃ n, n ∈ ["NoneType", "bool", "int", "str", "list", "tuple", "dict"] ∧ tv = .type n) ∨ ∃ d, T.plain d = true ∧ tv = .ref (A.ca d)) →
    A'.units + 1 < cLine → (b = false → ∃ (q dq : Addr), u = .ref q ∧ s.heap.get? q = some (PySem.W.instObj (A.ca c) dq)) →
    wpAny (model P w) (if b then A' else A'.in1) (call (.ref (A.fa f)) [.ref a, u]) (fun v s' => ∃ r, v = .bool r ∧ Q (.bool (r == b)) s') E s → wpAny (model P w) A' (compareOp (if b then .Eq else .NotEq) (.ref a) u) Q E s
  sgd : PySem.W.specialIn K (.builtin "object.__class__") "__get__" = some (some (.builtin "getset_descriptor.__get__"))
  stk : PySem.W.takesIn K (.builtin "object.__class__") = some true
  isa : ∀ t cv, (∃ n, t = Value.type n ∧ n ∈ ["NoneType", "bool", "int", "str", "list", "tuple", "dict"]) → (∃ n, cv = Value.type n ∧ n ∈ ["bool", "int", "str", "list", "tuple", "dict", "ValueError"]) →
    PySem.W.kitOne K t cv = some (decide (t = cv) || (decide (t = .type "bool") && decide (cv = .type "int")))
  isb : ∀ t c, (∃ n, t = Value.type n ∧ n ∈ ["NoneType", "bool", "int", "str", "list", "tuple", "dict"]) → (∃ x, G.gc.lookup x = some c) → PySem.W.kitOne K t (.ref (A.ca c)) = some false
  isc : ∀ c cv, T.plain c = true → (∃ n, cv = Value.type n ∧ n ∈ ["bool", "int", "str", "list", "tuple", "dict", "ValueError"]) → PySem.W.kitOne K (.ref (A.ca c)) cv = some false
  isd : ∀ c d, T.plain c = true → (∃ x, G.gc.lookup x = some d) → PySem.W.kitOne K (.ref (A.ca c)) (.ref (A.ca d)) = some (T.sub c d)
structure Fx : Prop extends Fx0 P w K mg base G A T where
  k1 : 1 ≤ k
  fns : ∀ f, f < G.par.length → ∃ ps fd, G.par[f]? = some ps ∧ FOk P w K mg base G A T cal k f ps fd
  len : ∀ f ps ws h, G.par[f]? = some ps → ws.length ≠ ps.length → cal f ws h = .stuck
end

section
variable (G : Glo) (N : List Str) (A : Nm) (T : Tab) (cal : Nat → List W → Hs → R W) (k : Nat)
/-- the context of an expression whose written scope is sc -/
structure Cok (X : Cx) (sc : Scope) : Prop where
  calm : X.calm = true
  hN : X.N = N
  nd : N.Nodup
  loc : ∀ x kd, sc.names.lookup x = some kd → kd ≠ .free → X.env.scope.names.lookup x = some kd
  fre : ∀ x, sc.names.lookup x = some .free → X.env.scope.names.lookup x = some .free ∨ X.env.scope.names.lookup x = some .cell
  room : Room (k + 1) X.A
  st : ∀ x, kL sc x = true → Loc X.env.scope x ∧ (X.fn x = true ∨ X.env.scope.names.lookup x = some .local)
  fx : Fx X.prog X.w X.K X.mg X.base G A T cal k

/-- an expression runs as its image runs -/
def SE (X : Cx) (e : Expr) (ev : Env → Hs → R W) : Prop := ∀ (Wx : WX), Takes X Wx → ∀ m H σ env h Q, HRel X.K A m h H → EnvR X.K A m H env σ →
  OutW X.K A T m H (ev env h) Q (fun c d H' => Wx c d σ H') → tE X e σ H Q
def SA (X : Cx) (es : List Expr) (ev : Env → Hs → R (List W)) : Prop := ∀ (Wx : WX), Takes X Wx → ∀ m H σ env h Q, HRel X.K A m h H → EnvR X.K A m H env σ →
  OutL X.K A T m H (ev env h) Q (fun c d H' => Wx c d σ H') → tA X es σ H Q
/-- a list that is made on the spot: it stands at a new address (new since H0) that the map does not know -/
def RelD (K : PySem.W.Frag) (H0 : Hp) (m : Mp) (H : Hp) (ws : List W) (v : V) : Prop := ∃ D vs, v = .ref D ∧ H D = some (.lst vs) ∧ D ∉ m ∧ H0 D = none ∧ RelWs K A m H ws vs
def SL (X : Cx) (e : Expr) (ev : Env → Hs → R (List W)) : Prop := ∀ (Wx : WX), Takes X Wx → ∀ m H σ env h Q, HRel X.K A m h H → EnvR X.K A m H env σ →
  Out X.K A T (RelD A X.K H) m H (ev env h) Q (fun c d H' => Wx c d σ H') → tE X e σ H Q
end

section
variable {G : Glo} {N : List Str} {A : Nm} {T : Tab} {cal : Nat → List W → Hs → R W} {k : Nat} {X : Cx} {sc : Scope}
theorem kV_vis (C : Cok G N A T cal k X sc) {x : Str} (h : kV sc x = true) : Vis X.env.scope x := by
  unfold kV at h
  cases e : sc.names.lookup x with
  | none => rw [e] at h; cases h
  | some kd =>
    rw [e] at h
    cases kd with
    | «local» => exact .inl (C.loc x _ e (by decide))
    | cell => exact .inr (.inl (C.loc x _ e (by decide)))
    | free =>
      rcases C.fre x e with q | q
      · exact .inr (.inr q)
      · exact .inr (.inl q)
    | _ => cases h
theorem nmG_gl (C : Cok G N A T cal k X sc) {x : Str} (h : nmG sc x = true) : Gl X x ∧ (x == ("__debug__" : Str)) = false := by
  unfold nmG at h
  simp only [Bool.and_eq_true, decide_eq_true_eq, Bool.not_eq_true'] at h
  exact ⟨C.loc x _ h.1 (by decide), h.2⟩
theorem nmB_gl (C : Cok G N A T cal k X sc) {x b : Str} (h : nmB G sc x b = true) : x = b ∧ Gl X x ∧ (x == ("__debug__" : Str)) = false ∧ X.mg x = none ∧ x ≠ "__name__" := by
  unfold nmB at h
  simp only [Bool.and_eq_true, decide_eq_true_eq, Bool.not_eq_true', decide_eq_false_iff_not] at h
  obtain ⟨⟨⟨h1, h2⟩, h3⟩, h4⟩ := h
  obtain ⟨g1, g2⟩ := nmG_gl C h2
  exact ⟨h1, g1, g2, C.fx.free x h3, h4⟩
/-! ### names, constants -/
theorem s_var (C : Cok G N A T cal k X sc) {i : Nat} {x : Str} {pos : Pos} (h : nmV N sc x i = true) : SE A T X (.Name x pos) (evE T cal (.var i)) := by
  unfold nmV at h
  simp only [Bool.and_eq_true, decide_eq_true_eq, Bool.not_eq_true'] at h
  obtain ⟨⟨⟨h1, h2⟩, h3⟩, h4⟩ := h
  intro Wx tk m H σ env hs Q hr he o
  refine tE_of (pe_var (i := i) (by rw [C.hN]; exact h1) (kV_vis C h2) h3 h4) ?_
  simp only [evE] at o
  split at o
  · rename_i w e
    obtain ⟨v, e1, r⟩ := he.2 i w e
    exact ⟨v, e1, out_ok o .rfl' hr r⟩
  · exact (show False from o).elim
theorem s_non {j pos} : SE A T X (.Constant .none j pos) (evE T cal .non) := fun Wx tk m H σ env hs Q hr he o => tE_of pe_non (out_ok (v := V.non) o .rfl' hr rfl)
theorem s_bl {b j pos} : SE A T X (.Constant (.bool b) j pos) (evE T cal (.bl b)) := fun Wx tk m H σ env hs Q hr he o => tE_of pe_bl (out_ok (v := V.bl b) o .rfl' hr rfl)
theorem s_int {b j pos} : SE A T X (.Constant (.int b) j pos) (evE T cal (.int b)) := fun Wx tk m H σ env hs Q hr he o => tE_of pe_int (out_ok (v := V.int b) o .rfl' hr rfl)
theorem s_str {b j pos} : SE A T X (.Constant (.str b) j pos) (evE T cal (.str b)) := fun Wx tk m H σ env hs Q hr he o => tE_of pe_str (out_ok (v := V.str b) o .rfl' hr rfl)
theorem s_glob (C : Cok G N A T cal k X sc) {g : Nat} {x : Str} {pos : Pos} (h1 : nmG sc x = true) (h2 : G.gv.lookup x = some g) : SE A T X (.Name x pos) (evE T cal (.glob g)) := by
  intro Wx tk m H σ env hs Q hr he o
  obtain ⟨w, e, o⟩ := out_opt o
  obtain ⟨u, v, hm, rv, rw'⟩ := C.fx.gv x g h2 w e
  obtain ⟨g1, g2⟩ := nmG_gl C h1
  exact tE_of (pe_glob g1 hm rv g2) (out_ok o .rfl' hr (rw' m H))
end
end MP
end

section
set_option Elab.async false
set_option linter.all false
set_option maxRecDepth 100000
set_option maxHeartbeats 8000000
/-! MiniPy: operators. -/
namespace MP
open PySem PySem.Spec PyProof.Rows L2

section
variable (X : Cx)
def tO (f : Value → Value → Sem Value) : R2 := fun x y H Q => ∀ pins s σ v u, Inv X pins σ H s → RelV x v → RelV y u → wpAny (model X.prog X.w) X.A (f v u) (EP X pins σ Q) X.xe s
def tU (f : Value → Sem Value) : V → Hp → VK → Prop := fun x H Q => ∀ pins s σ v, Inv X pins σ H s → RelV x v → wpAny (model X.prog X.w) X.A (f v) (EP X pins σ Q) X.xe s
end
section
variable {X : Cx}
theorem op_w {f : Value → Value → Sem Value} : OpR X f (tO X f) := fun pins s σ _ _ _ v u _ I r q h => h pins s σ v u I r q
theorem un_w {f : Value → Sem Value} : UnR X f (tU X f) := fun pins s σ _ _ v _ I r h => h pins s σ v I r
theorem tO_of {f : Value → Value → Sem Value} {r : R2} {x y : V} {H : Hp} {Q : VK} (h : OpR X f r) (q : r x y H Q) : tO X f x y H Q := fun pins s σ v u I rx ry => h pins s σ H x y v u Q I rx ry q
theorem tU_of {f : Value → Sem Value} {r : V → Hp → VK → Prop} {x : V} {H : Hp} {Q : VK} (h : UnR X f r) (q : r x H Q) : tU X f x H Q := fun pins s σ v I rx => h pins s σ H x v Q I rx q
end

section
variable {K : PySem.W.Frag} {A : Nm} {T : Tab} {m : Mp} {H : Hp} {E : XK} {Q : VK}
theorem rel_tup {ws : List W} {x : V} (r : RelW K A m H (.tup ws) x) : ∃ a vs, x = .ref a ∧ SqT K H a vs ∧ RelWs K A m H ws vs := r
theorem rel_ref {n : Nat} {x : V} (r : RelW K A m H (.ref n) x) : ∃ a, m[n]? = some a ∧ x = .ref a := r
theorem out_if {α β : Type} {Rl : Mp → Hp → α → β → Prop} {c : Prop} [Decidable c] {r : R α} {Q : β → Hp → Prop} (o : Out K A T Rl m H (if c then r else .stuck) Q E) : c ∧ Out K A T Rl m H r Q E := by
  by_cases h : c
  · rw [if_pos h] at o; exact ⟨h, o⟩
  · rw [if_neg h] at o; exact (show False from o).elim
/-- a new tuple -/
theorem out_tup {ws : List W} {vs : List V} {h : Hs} (hr : HRel K A m h H) (r : RelWs K A m H ws vs) (o : OutW K A T m H (.ok (.tup ws) h) Q E) (p : Addr) (n : H p = none) : Q (.ref p) (upd H p (.tup vs)) :=
  o m _ (.ref p) (Stp.laid n) (hr.laid n) ⟨p, vs, rfl, .inl (.inl upd_same), r.mono (Stp.laid n)⟩
/-- a new list that the map learns -/
theorem out_lst {ws : List W} {vs : List V} {h : Hs} (hr : HRel K A m h H) (r : RelWs K A m H ws vs) (o : OutW K A T m H (.ok (.ref h.length) (h ++ [.lst ws])) Q E) (p : Addr) (n : H p = none) : Q (.ref p) (upd H p (.lst vs)) :=
  o (m ++ [p]) _ (.ref p) (Stp.grown n) (hr.grown n ⟨vs, upd_same, r.mono (Stp.grown n)⟩) ⟨p, grown_at hr, rfl⟩
theorem sz : sizeLine = SZ := sizeLine_eq
theorem mul_ok {a b : Int} (h : okMul a b = true) : CMul a b := by
  unfold okMul at h
  simp only [Bool.or_eq_true, decide_eq_true_eq] at h
  have e : (2 : Nat) ^ 64 = 18446744073709551616 := by decide
  rcases h with h | h
  · left
    rw [e] at h
    constructor <;> omega
  · right
    rw [e] at h
    constructor <;> omega
theorem RelWs.rep {ws : List W} {vs : List V} (r : RelWs K A m H ws vs) : ∀ k : Nat, RelWs K A m H (List.replicate k ws).flatten (List.replicate k vs).flatten
  | 0 => rfl
  | k + 1 => by
    rw [List.replicate_succ, List.replicate_succ, List.flatten_cons, List.flatten_cons]
    exact r.append (RelWs.rep r k)
theorem RelWs.eq_nil {ws : List W} {vs : List V} (r : RelWs K A m H ws vs) : vs = [] ↔ ws = [] := by
  have := r.length
  constructor
  · intro e; rw [e] at this; exact List.length_eq_zero_iff.mp this
  · intro e; rw [e] at this; exact List.length_eq_zero_iff.mp this.symm
end

section
variable {X : Cx} {A : Nm} {T : Tab} {m : Mp} {H : Hp} {h : Hs} {E : XK} {Q : VK} {a b : W} {x y : V}
theorem v_add (hr : HRel X.K A m h H) (ra : RelW X.K A m H a x) (rb : RelW X.K A m H b y) (o : OutW X.K A T m H (op2 h .add a b) Q E) : tO X (binaryOp .Add) x y H Q := by
  cases a with
  | int i => cases b with
    | int j => exact tO_of op_add ⟨i, j, ra, rb, out_ok o .rfl' hr rfl⟩
    | _ => exact (show False from o).elim
  | str i => cases b with
    | str j =>
      obtain ⟨c, o⟩ := out_if o
      exact tO_of op_add_str ⟨i, j, ra, rb, by rw [sz]; exact c, out_ok o .rfl' hr rfl⟩
    | _ => exact (show False from o).elim
  | tup ws => cases b with
    | tup us =>
      obtain ⟨c, o⟩ := out_if o
      obtain ⟨p, vs, rfl, q1, r1⟩ := rel_tup ra
      obtain ⟨p2, vs2, rfl, q2, r2⟩ := rel_tup rb
      refine tO_of op_catA ⟨p, p2, vs, vs2, rfl, rfl, q1, q2, by rw [sz, ← r1.length, ← r2.length]; exact c, fun e => ?_, fun e e2 => ?_, fun e e2 p3 n => ?_⟩
      · rw [r1.eq_nil.mp e, List.nil_append] at o
        exact o m H _ .rfl' hr ⟨p2, vs2, rfl, q2, r2⟩
      · rw [r2.eq_nil.mp e2, List.append_nil] at o
        exact o m H _ .rfl' hr ⟨p, vs, rfl, q1, r1⟩
      · exact out_tup hr (r1.append r2) o p3 n
    | _ => exact (show False from o).elim
  | ref n => cases b with
    | ref n2 =>
      have o' : OutW X.K A T m H (match h[n]?, h[n2]? with
        | some (.lst xs), some (.lst ys) => if xs.length + ys.length ≤ SZ then .ok (.ref h.length) (h ++ [.lst (xs ++ ys)]) else .stuck
        | _, _ => .stuck) Q E := o
      split at o'
      · rename_i xs ys e1 e2
        obtain ⟨c, o'⟩ := out_if o'
        obtain ⟨p, m1, rfl⟩ := rel_ref ra
        obtain ⟨p2, m2, rfl⟩ := rel_ref rb
        obtain ⟨vs, h1, r1⟩ := hr.cell _ _ _ e1 m1
        obtain ⟨vs2, h2, r2⟩ := hr.cell _ _ _ e2 m2
        exact tO_of op_cat ⟨p, p2, vs, vs2, rfl, rfl, h1, h2, by rw [sz, ← r1.length, ← r2.length]; exact c, fun p3 n => out_lst hr (r1.append r2) o' p3 n⟩
      · exact (show False from o').elim
    | _ => exact (show False from o).elim
  | _ => cases b <;> exact (show False from o).elim
theorem v_mul (hr : HRel X.K A m h H) (ra : RelW X.K A m H a x) (rb : RelW X.K A m H b y) (o : OutW X.K A T m H (op2 h .mul a b) Q E) : tO X (binaryOp .Mult) x y H Q := by
  cases a with
  | int i => cases b with
    | int j =>
      obtain ⟨c, o⟩ := out_if o
      exact tO_of op_mul ⟨i, j, ra, rb, mul_ok c, out_ok o .rfl' hr rfl⟩
    | _ => exact (show False from o).elim
  | tup ws => cases b with
    | int j =>
      obtain ⟨⟨c1, c2, c3, c4⟩, o⟩ := out_if o
      obtain ⟨p, vs, rfl, q1, r1⟩ := rel_tup ra
      exact tO_of op_repT ⟨p, j, vs, rfl, rb, q1, fun e => c1 (r1.eq_nil.mp e), c2, c3, by rw [← r1.length]; exact c4, fun p3 n => out_tup hr (r1.rep _) o p3 n⟩
    | _ => exact (show False from o).elim
  | _ => cases b <;> exact (show False from o).elim
theorem v_op {op : Op2} {p : Operator} (hp : opIs op p = true) (hr : HRel X.K A m h H) (ra : RelW X.K A m H a x) (rb : RelW X.K A m H b y) (o : OutW X.K A T m H (op2 h op a b) Q E) : tO X (binaryOp p) x y H Q := by
  cases op with
  | add => cases p <;> first | exact v_add hr ra rb o | cases hp
  | mul => cases p <;> first | exact v_mul hr ra rb o | cases hp
  | sub =>
    cases p with
    | Sub =>
      cases a with
      | int i => cases b with
        | int j => exact tO_of op_sub ⟨i, j, ra, rb, out_ok o .rfl' hr rfl⟩
        | _ => exact (show False from o).elim
      | _ => cases b <;> exact (show False from o).elim
    | _ => cases hp
  | fdiv =>
    cases p with
    | FloorDiv =>
      cases a with
      | int i => cases b with
        | int j =>
          obtain ⟨c, o⟩ := out_if o
          exact tO_of op_fdiv ⟨i, j, ra, rb, c, out_ok o .rfl' hr rfl⟩
        | _ => exact (show False from o).elim
      | _ => cases b <;> exact (show False from o).elim
    | _ => cases hp
  | mod =>
    cases p with
    | Mod =>
      cases a with
      | int i => cases b with
        | int j =>
          obtain ⟨c, o⟩ := out_if o
          exact tO_of op_mod ⟨i, j, ra, rb, c, out_ok o .rfl' hr rfl⟩
        | _ => exact (show False from o).elim
      | _ => cases b <;> exact (show False from o).elim
    | _ => cases hp
  | pow =>
    cases p with
    | Pow =>
      cases a with
      | int i => cases b with
        | int j =>
          obtain ⟨c, o⟩ := out_if o
          exact tO_of op_pow ⟨i, j, ra, rb, c, out_ok o .rfl' hr rfl⟩
        | _ => exact (show False from o).elim
      | _ => cases b <;> exact (show False from o).elim
    | _ => cases hp
  | shl =>
    cases p with
    | LShift =>
      cases a with
      | int i => cases b with
        | int j =>
          obtain ⟨c, o⟩ := out_if o
          exact tO_of op_shl ⟨i, j, ra, rb, c, out_ok o .rfl' hr rfl⟩
        | _ => exact (show False from o).elim
      | _ => cases b <;> exact (show False from o).elim
    | _ => cases hp
  | shr =>
    cases p with
    | RShift =>
      cases a with
      | int i => cases b with
        | int j =>
          obtain ⟨c, o⟩ := out_if o
          exact tO_of op_shr ⟨i, j, ra, rb, c, out_ok o .rfl' hr rfl⟩
        | _ => exact (show False from o).elim
      | _ => cases b <;> exact (show False from o).elim
    | _ => cases hp
  | band =>
    cases p with
    | BitAnd =>
      cases a with
      | int i => cases b with
        | int j => exact tO_of op_and ⟨i, j, ra, rb, out_ok o .rfl' hr rfl⟩
        | _ => exact (show False from o).elim
      | _ => cases b <;> exact (show False from o).elim
    | _ => cases hp
  | bor =>
    cases p with
    | BitOr =>
      cases a with
      | int i => cases b with
        | int j => exact tO_of op_or ⟨i, j, ra, rb, out_ok o .rfl' hr rfl⟩
        | _ => exact (show False from o).elim
      | _ => cases b <;> exact (show False from o).elim
    | _ => cases hp
  | bxor =>
    cases p with
    | BitXor =>
      cases a with
      | int i => cases b with
        | int j => exact tO_of op_xor ⟨i, j, ra, rb, out_ok o .rfl' hr rfl⟩
        | _ => exact (show False from o).elim
      | _ => cases b <;> exact (show False from o).elim
    | _ => cases hp

/-! ### == -/
mutual
theorem deref_dp (hr : HRel X.K A m h H) : ∀ (n : Nat) (w : W) (d : PyData) (v : V), deref n h w = some d → RelW X.K A m H w v → Dp X.K H v d ∧ d.canLay0 = true ∧ d.depth ≤ n
  | 0, _, _, _, e, _ => by simp [deref] at e
  | n + 1, .non, _, _, e, r => by
    simp [deref] at e; subst e; cases r; exact ⟨.non, rfl, by simp [PyData.depth]⟩
  | n + 1, .bl b, _, _, e, r => by
    simp [deref] at e; subst e; cases r; exact ⟨.bl b, rfl, by simp [PyData.depth]⟩
  | n + 1, .int b, _, _, e, r => by
    simp [deref] at e; subst e; cases r; exact ⟨.int b, rfl, by simp [PyData.depth]⟩
  | n + 1, .str b, _, _, e, r => by
    simp only [deref] at e
    split at e
    · rename_i c
      cases e; cases r; exact ⟨.str b, by simpa [PyData.canLay0] using c, by simp [PyData.depth]⟩
    · cases e
  | n + 1, .tup ws, _, _, e, r => by
    simp only [deref, Option.map_eq_some_iff] at e
    obtain ⟨ds, e1, e2⟩ := e
    subst e2
    obtain ⟨a, vs, rfl, q, r2⟩ := rel_tup r
    obtain ⟨p1, p2, p3⟩ := deref_dps hr n ws ds vs e1 r2
    exact ⟨.tup q p1, by simpa [PyData.canLay0] using p2, by simp only [PyData.depth]; omega⟩
  | n + 1, .ref k, _, _, e, r => by
    simp only [deref] at e
    obtain ⟨a, e3, rfl⟩ := rel_ref r
    split at e
    · rename_i xs ec
      simp only [Option.map_eq_some_iff] at e
      obtain ⟨ds, e1, e2⟩ := e
      subst e2
      obtain ⟨vs, q, r2⟩ := hr.cell _ _ _ ec e3
      obtain ⟨p1, p2, p3⟩ := deref_dps hr n xs ds vs e1 r2
      exact ⟨.lst (SqL.of q) p1, by simpa [PyData.canLay0] using p2, by simp only [PyData.depth]; omega⟩
    · rename_i xs ec
      simp only [Option.map_eq_some_iff] at e
      obtain ⟨ds, e1, e2⟩ := e
      subst e2
      obtain ⟨ob, vs, q, r2⟩ := hr.cell _ _ _ ec e3
      obtain ⟨p1, p2, p3⟩ := deref_dps hr n xs ds vs e1 r2
      exact ⟨.lst (.inl (.inr ⟨ob, q⟩)) p1, by simpa [PyData.canLay0] using p2, by simp only [PyData.depth]; omega⟩
    · cases e
  | n + 1, .fn _, _, _, e, _ => by simp [deref] at e
  | n + 1, .cls _, _, _, e, _ => by simp [deref] at e
  | n + 1, .exn _ _, _, _, e, _ => by simp [deref] at e
theorem deref_dps (hr : HRel X.K A m h H) : ∀ (n : Nat) (ws : List W) (ds : List PyData) (vs : List V), ws.mapM (deref n h) = some ds → RelWs X.K A m H ws vs → DpAll X.K H vs ds ∧ PyData.canLayAll0 ds = true ∧ PyData.depthAll ds ≤ n
  | n, [], _, _, e, r => by
    simp at e; subst e; rw [(show _ = [] from r)]; exact ⟨.nil, rfl, by simp [PyData.depthAll]⟩
  | n, w :: ws, _, _, e, r => by
    simp only [List.mapM_cons, Option.bind_eq_bind, Option.bind_eq_some_iff] at e
    obtain ⟨d, e1, ds, e2, e3⟩ := e
    cases e3
    obtain ⟨v, vs, rfl, rw', rr⟩ := r
    obtain ⟨p1, p2, p3⟩ := deref_dp hr n w d v e1 rw'
    obtain ⟨q1, q2, q3⟩ := deref_dps hr n ws ds vs e2 rr
    exact ⟨.cons p1 q1, by simp only [PyData.canLayAll0, p2, q2]; rfl, by simp only [PyData.depthAll]; omega⟩
end
end
end MP
end

section
set_option Elab.async false
set_option linter.all false
set_option maxRecDepth 100000
set_option maxHeartbeats 8000000
/-! MiniPy: calls of defs by values, comparisons, tests. -/
namespace MP
open PySem PySem.Spec PyProof.Rows L2

section
variable {G : Glo} {N : List Str} {A : Nm} {T : Tab} {cal : Nat → List W → Hs → R W} {k : Nat} {X : Cx} {sc : Scope}
/-- a call of a def by values -/
theorem run_cal (C : Cok G N A T cal k X sc) {Wx : WX} (tk : Takes X Wx) {f : Nat} (hf : f < G.par.length) {pins : List (Addr × Obj)} {σ : L2.St} {H : Hp} {s : Shared} {us : List Value} {vs : List V} {ws : List W} {m : Mp} {h : Hs} {Q : VK}
    (I : Inv X pins σ H s) (r : Vals vs us) (hr : HRel X.K A m h H) (rw' : RelWs X.K A m H ws vs) (o : OutW X.K A T m H (cal f ws h) Q (fun c d H' => Wx c d σ H')) {A' : Around} (room : Room k A') (e0 : Env0 X.prog X.w X.K X.mg X.base A' X.stack s H) :
    wpAny (model X.prog X.w) A' (call (.ref (A.fa f)) us) (EP X pins σ Q) X.xe s := by
  obtain ⟨ps, fd, hp, F⟩ := C.fx.fns f hf
  have hl : ws.length = ps.length := by
    by_cases e : ws.length = ps.length
    · exact e
    · rw [C.fx.len f ps ws h hp e] at o; exact (show False from o).elim
  have hl2 : us.length = ps.length := by rw [← r.length, ← rw'.length]; exact hl
  refine wpAny_call (codeAny_mono (F.ok.run A' X.stack s H ⟨us, []⟩ us vs Q (fun c d H' => Wx c d σ H') room e0 (F.bp us hl2 s I.kIn) r ⟨by rw [← rw'.length]; exact hl, m, h, ws, hr, rw', o⟩) fun rr s' hq => ?_)
  cases rr with
  | error e => exact passAt tk σ pins H s e s' I hq
  | ok fl =>
    cases fl with
    | ret u => exact I.after hq
    | next => exact False.elim hq
    | brk => exact False.elim hq
    | cont => exact False.elim hq
/-- with keywords -/
theorem run_calK (C : Cok G N A T cal k X sc) {Wx : WX} (tk : Takes X Wx) {f n : Nat} {ks : List Str} {p : List Nat} (hf : f < G.par.length) (hkp : (f, n, ks, p) ∈ G.kwp) {pins : List (Addr × Obj)} {σ : L2.St} {H : Hp} {s : Shared} {us zs : List Value} {vs ys : List V} {ws ws' : List W} {m : Mp} {h : Hs} {Q : VK}
    (I : Inv X pins σ H s) (r : Vals vs us) (rz : Vals ys zs) (hn : us.length = n) (hk : zs.length = ks.length) (hr : HRel X.K A m h H) (rw' : RelWs X.K A m H ws (vs ++ ys)) (hp : p.mapM (fun i => ws[i]?) = some ws') (o : OutW X.K A T m H (cal f ws' h) Q (fun c d H' => Wx c d σ H'))
    {A' : Around} (room : Room k A') (e0 : Env0 X.prog X.w X.K X.mg X.base A' X.stack s H) :
    wpAny (model X.prog X.w) A' (call (.ref (A.fa f)) us (ks.zip zs)) (EP X pins σ Q) X.xe s := by
  obtain ⟨ps, fd, hps, F⟩ := C.fx.fns f hf
  obtain ⟨xs, e1, e2, e3⟩ := F.bk n ks p hkp us zs hn hk
  have rr : Vals (vs ++ ys) (us ++ zs) := r.append rz
  -- the values in the parameters' order
  have key : ∀ (p : List Nat) (ws' : List W) (xs : List Value), p.mapM (fun i => ws[i]?) = some ws' → p.mapM (fun i => (us ++ zs)[i]?) = some xs → ∃ vs', RelWs X.K A m H ws' vs' ∧ Vals vs' xs := by
    intro p
    induction p with
    | nil =>
      intro ws' xs h1 h2
      simp at h1 h2; subst h1; subst h2; exact ⟨[], .nil, .nil⟩
    | cons i p ih =>
      intro ws' xs h1 h2
      simp only [List.mapM_cons, Option.bind_eq_bind, Option.bind_eq_some_iff] at h1 h2
      obtain ⟨w1, a1, w2, a2, a3⟩ := h1
      obtain ⟨x1, b1, x2, b2, b3⟩ := h2
      cases a3; cases b3
      obtain ⟨v, c1, c2⟩ := rw'.get a1
      obtain ⟨u, d1, d2⟩ := rr.get c1
      rw [d1] at b1; cases b1
      obtain ⟨vs', q1, q2⟩ := ih _ _ a2 b2
      exact ⟨v :: vs', .cons c2 q1, .cons d2 q2⟩
  obtain ⟨vs', q1, q2⟩ := key p ws' xs hp e1
  have hl : ws'.length = ps.length := by rw [q1.length, q2.length, e2]
  refine wpAny_call (codeAny_mono (F.ok.run A' X.stack s H ⟨us, ks.zip zs⟩ xs vs' Q (fun c d H' => Wx c d σ H') room e0 (e3 s I.kIn) q2 ⟨by rw [← q1.length]; exact hl, m, h, ws', hr, q1, o⟩) fun rr s' hq => ?_)
  cases rr with
  | error e => exact passAt tk σ pins H s e s' I hq
  | ok fl =>
    cases fl with
    | ret u => exact I.after hq
    | next => exact False.elim hq
    | brk => exact False.elim hq
    | cont => exact False.elim hq

/-- with defaults that are left out -/
theorem run_calD (C : Cok G N A T cal k X sc) {Wx : WX} (tk : Takes X Wx) {f n : Nat} {ds : List Int} (hf : f < G.par.length) (hd : (f, n, ds) ∈ G.dfp) {pins : List (Addr × Obj)} {σ : L2.St} {H : Hp} {s : Shared} {us : List Value} {vs : List V} {ws : List W} {m : Mp} {h : Hs} {Q : VK}
    (I : Inv X pins σ H s) (r : Vals vs us) (hn : us.length = n) (hr : HRel X.K A m h H) (rw' : RelWs X.K A m H ws vs) (o : OutW X.K A T m H (cal f (ws ++ ds.map .int) h) Q (fun c d H' => Wx c d σ H'))
    {A' : Around} (room : Room k A') (e0 : Env0 X.prog X.w X.K X.mg X.base A' X.stack s H) :
    wpAny (model X.prog X.w) A' (call (.ref (A.fa f)) us) (EP X pins σ Q) X.xe s := by
  obtain ⟨ps, fd, hps, F⟩ := C.fx.fns f hf
  obtain ⟨e1, its, e2, e3⟩ := F.bd n ds hd
  have rl : ∀ ds : List Int, RelWs X.K A m H (ds.map W.int) (ds.map V.int) := fun ds => by
    induction ds with
    | nil => exact .nil
    | cons i ds ih => exact .cons rfl ih
  have rw2 : ∀ {ws : List W} {vs : List V}, RelWs X.K A m H ws vs → RelWs X.K A m H (ws ++ ds.map .int) (vs ++ ds.map .int) := fun {ws} => by
    induction ws with
    | nil => intro vs r; cases vs with
      | nil => exact rl ds
      | cons _ _ => obtain ⟨⟩ := r.length
    | cons w ws ih =>
      intro vs r
      obtain ⟨v, vs', e, q, z⟩ := (show ∃ v r, vs = v :: r ∧ RelW X.K A m H w v ∧ RelWs X.K A m H ws r from r)
      subst e
      exact .cons q (ih z)
  have q1 := rw2 rw'
  have hl : (ws ++ ds.map W.int).length = ps.length := by
    rw [List.length_append, List.length_map, rw'.length, r.length, hn, e1]
  refine wpAny_call (codeAny_mono (F.ok.run A' X.stack s H ⟨us, []⟩ (us ++ its) (vs ++ ds.map V.int) Q (fun c d H' => Wx c d σ H') room e0 (e3 us hn s I.kIn) (r.append e2) ⟨by rw [← q1.length]; exact hl, m, h, ws ++ ds.map .int, hr, q1, o⟩) fun rr s' hq => ?_)
  cases rr with
  | error e => exact passAt tk σ pins H s e s' I hq
  | ok fl =>
    cases fl with
    | ret u => exact I.after hq
    | next => exact False.elim hq
    | brk => exact False.elim hq
    | cont => exact False.elim hq

/-! ### comparisons -/
theorem notSet_marks {op : CmpOp} {e : Expr} (h : good e = true) : behindInMarks op e = false := by
  cases e <;> first | rfl | cases h
theorem lits_ne {n : String} {o : Obj} (h : o.cls = .type n) (d : n ≠ "type") : o.cls ≠ .type "type" := by
  rw [h]; intro e; exact d (Value.type.inj e)
/-- what an object of the map is -/
theorem obj_of {pins : List (Addr × Obj)} {σ : L2.St} {H : Hp} {s : Shared} {m : Mp} {h : Hs} (I : Inv X pins σ H s) (hr : HRel X.K A m h H) {w : W} {q : Addr} (r : RelW X.K A m H w (.ref q)) (hw : ∀ i, w ≠ .fn i) (hw2 : ∀ i, w ≠ .cls i) : ∃ o, s.heap.get? q = some o ∧ o.cls ≠ .type "type" := by
  cases w with
  | tup ws =>
    obtain ⟨a, vs, e, t, _⟩ := rel_tup r
    cases e
    obtain ⟨its, rv, p, _⟩ := I.tuple t
    obtain ⟨o, e1, e2, _⟩ := p
    exact ⟨o, e1, lits_ne e2 (by decide)⟩
  | ref n =>
    obtain ⟨a, e, e2⟩ := rel_ref r
    cases e2
    have lt : n < h.length := by rw [← hr.len]; exact getE_lt e
    have ec := List.getElem?_eq_getElem lt
    have ck := hr.cell n _ q ec e
    cases hc : h[n] with
    | lst ws =>
      rw [hc] at ck
      obtain ⟨vs, e3, _⟩ := ck
      obtain ⟨_, its, nn, _, e4⟩ := (show ObjOk X.prog X.w H s.heap q (.lst vs) from I.hok q _ e3)
      exact ⟨_, e4, by simp⟩
    | frz ws =>
      rw [hc] at ck
      obtain ⟨ob, vs, e3, _⟩ := ck
      obtain ⟨e4, _, its, nn, _, e5⟩ := (show ObjOk X.prog X.w H s.heap q (.frz ob (.lst vs)) from I.hok q _ e3)
      exact ⟨_, e5, by simp⟩
    | dct kvs =>
      rw [hc] at ck
      obtain ⟨vs, e3, _⟩ := ck
      obtain ⟨_, _, vs2, _, o, es, ep, e4, e5, _⟩ := (show ObjOk X.prog X.w H s.heap q (.dK vs) from I.hok q _ e3)
      exact ⟨o, e4, lits_ne e5.1 (by decide)⟩
    | fdc kvs =>
      rw [hc] at ck
      obtain ⟨ob, vs, e3, _⟩ := ck
      obtain ⟨_, _, _, vs2, _, o, es, ep, e4, e5, _⟩ := (show ObjOk X.prog X.w H s.heap q (.frz ob (.dK vs)) from I.hok q _ e3)
      exact ⟨o, e4, lits_ne e5.1 (by decide)⟩
    | ins c fs =>
      rw [hc] at ck
      obtain ⟨dx, gs, e3, _⟩ := ck
      obtain ⟨_, _, _, e4, _⟩ := (show ObjOk X.prog X.w H s.heap q (.ins (A.ca c) dx gs) from I.hok q _ e3)
      exact ⟨_, e4, by simp [PySem.W.instObj]⟩
  | fn i => exact absurd rfl (hw i)
  | cls i => exact absurd rfl (hw2 i)
  | exn c vs => exact (show False from r).elim
  | _ => cases r
def fnless : W → Bool
  | .fn _ | .cls _ => false
  | _ => true
/-- == and the others by values, without an own == -/
theorem v_cmp (C : Cok G N A T cal k X sc) {c : Cm} {p : CmpOp} (hp : cmIs c p = true) {m : Mp} {H : Hp} {h : Hs} {E : XK} {Q : VK} {a b : W} {x y : V} (hr : HRel X.K A m h H) (ra : RelW X.K A m H a x) (rb : RelW X.K A m H b y) (o : OutW X.K A T m H (cmp2 h c a b) Q E) : tO X (compareOp p) x y H Q := by
  have hu : X.A.units + 64 < cLine := C.room.units
  cases c with
  | eq =>
    cases p <;> first | cases hp | skip
    have o' : OutW X.K A T m H (match eqE h a b with | some c => .ok (.bl c) h | none => .stuck) Q E := o
    unfold eqE at o'
    split at o'
    · rename_i c ec
      split at ec
      · rename_i d e e1 e2
        cases ec
        obtain ⟨p1, p2, p3⟩ := deref_dp hr 60 a d x e1 ra
        obtain ⟨q1, q2, q3⟩ := deref_dp hr 60 b e y e2 rb
        exact tO_of (op_eqD hu) ⟨d, e, p1, q1, by simp only [SeqAt.shaped, p2, Bool.true_and, decide_eq_true_eq]; omega, by simp only [SeqAt.shaped, q2, Bool.true_and, decide_eq_true_eq]; omega, out_ok o' .rfl' hr rfl⟩
      · cases ec
    · exact (show False from o').elim
  | ne =>
    cases p <;> first | cases hp | skip
    have o' : OutW X.K A T m H (match eqE h a b with | some c => .ok (.bl (!c)) h | none => .stuck) Q E := o
    unfold eqE at o'
    split at o'
    · rename_i c ec
      split at ec
      · rename_i d e e1 e2
        cases ec
        obtain ⟨p1, p2, p3⟩ := deref_dp hr 60 a d x e1 ra
        obtain ⟨q1, q2, q3⟩ := deref_dp hr 60 b e y e2 rb
        exact tO_of (op_neD hu) ⟨d, e, p1, q1, by simp only [SeqAt.shaped, p2, Bool.true_and, decide_eq_true_eq]; omega, by simp only [SeqAt.shaped, q2, Bool.true_and, decide_eq_true_eq]; omega, out_ok o' .rfl' hr rfl⟩
      · cases ec
    · exact (show False from o').elim
  | lt =>
    cases p <;> first | cases hp | skip
    cases a with
    | int i => cases b with
      | int j => exact tO_of op_lt ⟨i, j, ra, rb, out_ok o .rfl' hr rfl⟩
      | _ => exact (show False from o).elim
    | _ => cases b <;> exact (show False from o).elim
  | le =>
    cases p <;> first | cases hp | skip
    cases a with
    | int i => cases b with
      | int j => exact tO_of op_le ⟨i, j, ra, rb, out_ok o .rfl' hr rfl⟩
      | _ => exact (show False from o).elim
    | _ => cases b <;> exact (show False from o).elim
  | gt =>
    cases p <;> first | cases hp | skip
    cases a with
    | int i => cases b with
      | int j => exact tO_of op_gt ⟨i, j, ra, rb, out_ok o .rfl' hr rfl⟩
      | _ => exact (show False from o).elim
    | _ => cases b <;> exact (show False from o).elim
  | ge =>
    cases p <;> first | cases hp | skip
    cases a with
    | int i => cases b with
      | int j => exact tO_of op_ge ⟨i, j, ra, rb, out_ok o .rfl' hr rfl⟩
      | _ => exact (show False from o).elim
    | _ => cases b <;> exact (show False from o).elim
end
end MP
end

section
set_option Elab.async false
set_option linter.all false
set_option maxRecDepth 100000
set_option maxHeartbeats 8000000
/-! MiniPy: comparisons with an own ==, tests, and, or, not, conditional expressions, displays, items. -/
namespace MP
open PySem PySem.Spec PyProof.Rows L2

section
variable {G : Glo} {N : List Str} {A : Nm} {T : Tab} {cal : Nat → List W → Hs → R W} {k : Nat} {X : Cx} {sc : Scope}
def truthR (r : R W) : R Bool := r.bind fun x h => truth h x
/-- an expression as a test -/
def ST (A : Nm) (T : Tab) (X : Cx) (e : Expr) (ev : Env → Hs → R W) : Prop := ∀ (Wx : WX), Takes X Wx → ∀ m H σ env h Q, HRel X.K A m h H → EnvR X.K A m H env σ →
  Out X.K A T (fun _ _ b c => b = c) m H (truthR (ev env h)) Q (fun c d H' => Wx c d σ H') → tT X e σ H Q
/-- .. one comparison -/
def SC (A : Nm) (T : Tab) (X : Cx) (op : CmpOp) (a b : Expr) (ev : Env → Hs → R W) : Prop := ∀ (Wx : WX), Takes X Wx → ∀ m H σ env h Q, HRel X.K A m h H → EnvR X.K A m H env σ →
  OutW X.K A T m H (ev env h) Q (fun c d H' => Wx c d σ H') → ∀ pins s, Inv X pins σ H s →
    wpAny (model X.prog X.w) X.A (eval a X.env) (fun v s₁ => wpAny (model X.prog X.w) X.A (eval b X.env) (fun u s₂ => wpAny (model X.prog X.w) X.A (compareOp op v u) (EP X pins σ Q) X.xe s₂) X.xe s₁) X.xe s
def tPC (X : Cx) (op : CmpOp) (a b : Expr) : TE := fun σ H Q => ∀ pins s, Inv X pins σ H s →
    wpAny (model X.prog X.w) X.A (eval a X.env) (fun v s₁ => wpAny (model X.prog X.w) X.A (eval b X.env) (fun u s₂ => wpAny (model X.prog X.w) X.A (compareOp op v u) (EP X pins σ Q) X.xe s₂) X.xe s₁) X.xe s
theorem pc_w {op : CmpOp} {a b : Expr} : PC X op a b (tPC X op a b) := ⟨fun pins s σ H Q I h => h pins s I⟩
theorem truth_out {r : R W} {Q : Bool → Hp → Prop} {m : Mp} {H : Hp} {E : XK} (o : Out X.K A T (fun _ _ b c => b = c) m H (truthR r) Q E) : OutW X.K A T m H r (fun x H1 => ∃ c, x = .bl c ∧ Q c H1) E :=
  Out.bind o fun w h1 m1 H1 v e s hr rv o1 => by
    cases w with
    | bl b => cases rv; exact ⟨b, rfl, out_ok o1 .rfl' hr rfl⟩
    | _ => exact (show False from o1).elim
theorem st_cmp {op : CmpOp} {a b : Expr} {pos : Pos} {ev : Env → Hs → R W} (h : SC A T X op a b ev) (hb : behindInMarks op b = false) : SE A T X (.Compare a [op] [b] pos) ev ∧ ST A T X (.Compare a [op] [b] pos) ev :=
  ⟨fun Wx tk m H σ env hs Q hr he o => tE_of (pe_cmp pc_w hb) (h Wx tk m H σ env hs Q hr he o),
   fun Wx tk m H σ env hs Q hr he o => tT_of (pt_cmp pc_w hb) (show tPC X op a b σ H (fun x H1 => ∃ c, x = .bl c ∧ Q c H1) from h Wx tk m H σ env hs _ hr he (truth_out o))⟩
/-- an expression that is tested by its value -/
def plainT : Expr → Bool
  | .UnaryOp .Not _ _ | .BoolOp .. | .IfExp .. | .Compare .. => false
  | _ => true
theorem plain_true {e : Expr} (h : plainT e = true) (env : PySem.Env) : ∀ whole, isTrue e env whole = (do let v ← whole; standAt e.pos; holding [v] (truthy v)) := by
  intro whole
  cases e with
  | UnaryOp o x p => cases o <;> first | rfl | cases h
  | BoolOp _ _ _ => cases h
  | IfExp _ _ _ _ => cases h
  | Compare _ _ _ _ => cases h
  | _ => rfl
theorem st_plain {e : Expr} {ev : Env → Hs → R W} (h : SE A T X e ev) (hp : plainT e = true) : ST A T X e ev := fun Wx tk m H σ env hs Q hr he o =>
  tT_of (pt_val pe_w (plain_true hp _)) (show tE X e σ H (fun x H1 => ∃ c, x = .bl c ∧ Q c H1) from h Wx tk m H σ env hs _ hr he (truth_out o))

def tyNs : List String := ["NoneType", "bool", "int", "str", "list", "tuple", "dict"]
/-- a value's type -/
theorem ty_any (C : Cok G N A T cal k X sc) {m : Mp} {H : Hp} {h : Hs} {w : W} {x : V} (hr : HRel X.K A m h H) (r : RelW X.K A m H w x) (h1 : ∀ i, w ≠ .fn i) (h2 : ∀ i, w ≠ .cls i) (hp : ∀ q c fs, w = .ref q → h[q]? = some (.ins c fs) → T.plain c = true) :
    ∃ tv, TyX X.K H x tv ∧ ((∃ n, n ∈ tyNs ∧ tv = .type n) ∨ ∃ c, T.plain c = true ∧ tv = .ref (A.ca c)) := by
  cases w with
  | non => rw [(show x = V.non from r)]; exact ⟨_, .base .non, .inl ⟨"NoneType", by decide, rfl⟩⟩
  | bl v => rw [(show x = V.bl v from r)]; exact ⟨_, .base (.bl v), .inl ⟨"bool", by decide, rfl⟩⟩
  | int v => rw [(show x = V.int v from r)]; exact ⟨_, .base (.int v), .inl ⟨"int", by decide, rfl⟩⟩
  | str v => rw [(show x = V.str v from r)]; exact ⟨_, .base (.str v), .inl ⟨"str", by decide, rfl⟩⟩
  | tup ws =>
    obtain ⟨p, vs, rfl, q, r⟩ := rel_tup r
    refine ⟨.type "tuple", ?_, .inl ⟨"tuple", by decide, rfl⟩⟩
    rcases q with (q | ⟨ob, q⟩) | ⟨ob, its, n, q1, q2, _⟩
    · exact .base (.tup q)
    · exact .fTuple q
    · exact .kTuple q1 q2
  | ref n =>
    obtain ⟨p, e, rfl⟩ := rel_ref r
    obtain ⟨r, c, e1, ec, ck⟩ := hr.mem (List.mem_of_getElem? e)
    have en := nodup_get hr.nd e e1
    subst en
    cases c with
    | lst ws =>
      obtain ⟨vs, q, _⟩ := ck
      exact ⟨_, .base (.lst q), .inl ⟨"list", by decide, rfl⟩⟩
    | frz ws =>
      obtain ⟨ob, vs, q, _⟩ := ck
      exact ⟨_, .base (.frz q), .inl ⟨"list", by decide, rfl⟩⟩
    | fdc ws =>
      obtain ⟨ob, vs, q, _⟩ := ck
      exact ⟨_, .fDict q, .inl ⟨"dict", by decide, rfl⟩⟩
    | dct ws =>
      obtain ⟨vs, q, _⟩ := ck
      exact ⟨_, .base (.dK q), .inl ⟨"dict", by decide, rfl⟩⟩
    | ins c fs =>
      obtain ⟨dx, gs, q, _⟩ := ck
      have pl := hp n c fs rfl ec
      obtain ⟨c1, c2, c3, c4⟩ := C.fx.cls c pl
      exact ⟨_, .base (.ins q c1 c3 C.fx.sgd C.fx.stk c4), .inr ⟨c, pl, rfl⟩⟩
  | fn f => exact absurd rfl (h1 f)
  | cls f => exact absurd rfl (h2 f)
  | exn c ws => exact (show False from r).elim
theorem handed_rel {v : V} {u : Value} (r : RelV v u) : PySem.W.handedIn u = true := handed_of r
theorem s_cmp (C : Cok G N A T cal k X sc) {c : Cm} {p : CmpOp} {a b : Ex} {l r : Expr} (hp : cmIs c p = true) (ha : SE A T X l (evE T cal a)) (hb : SE A T X r (evE T cal b)) : SC A T X p l r (evE T cal (.cmp c a b)) := by
  intro Wx tk m H σ env h Q hr he o pins s I
  rw [evE] at o
  have key := ha Wx tk m H σ env h (fun x H1 => ∀ pins s v, Inv X pins σ H1 s → RelV x v → wpAny (model X.prog X.w) X.A (eval r X.env) (fun u s₂ => wpAny (model X.prog X.w) X.A (compareOp p v u) (EP X pins σ Q) X.xe s₂) X.xe s) hr he
    (Out.bind o fun w1 h1 m1 H1 x e1 s1 hr1 r1 o1 => fun pins s v I r0 => by
      have key2 := hb Wx tk m1 H1 σ env h1 (fun y H2 => ∀ pins s u, Inv X pins σ H2 s → RelV y u → wpAny (model X.prog X.w) X.A (compareOp p v u) (EP X pins σ Q) X.xe s) hr1 (he.mono s1)
        (Out.bind o1 fun w2 h2 m2 H2 y e2 s2 hr2 r2 o2 => fun pins s u I ru => ?_)
      · exact thn (key2 pins s I) fun u s2 ⟨y, H2, I2, ry, q⟩ => q pins s2 u I2 ry
      · have r1' := r1.mono s2
        split at o2
        · rename_i f ef
          -- an own ==
          have o3 : OutW X.K A T m2 H2 ((cal f [w1, w2] h2).bind fun w h3 => match w with
            | .bl r => .ok (.bl (r == decide (c = .eq))) h3
            | _ => .stuck) Q (fun c d H' => Wx c d σ H') := o2
          have o4 : OutW X.K A T m2 H2 (cal f [w1, w2] h2) (fun z H3 => ∃ r, z = .bl r ∧ Q (.bl (r == decide (c = .eq))) H3) (fun c d H' => Wx c d σ H') :=
            Out.bind o3 fun w h3 m3 H3 z e3 s3 hr3 r3 o5 => by
              cases w with
              | bl b => cases r3; exact ⟨b, rfl, out_ok o5 .rfl' hr3 rfl⟩
              | _ => exact (show False from o5).elim
          have rc : ∀ {b : Bool}, (b = true → p = .Eq) → (b = false → p = .NotEq) → decide (c = .eq) = b → ∀ {n : Nat} {cc : Nat} {fs : List (Nat × W)}, w1 = .ref n → h2[n]? = some (.ins cc fs) → T.eqm cc = some f → (b = false → ∃ q gs, w2 = .ref q ∧ h2[q]? = some (.ins cc gs)) →
              (∀ i, w2 ≠ .fn i) → (∀ i, w2 ≠ .cls i) → (∀ q c fs, w2 = .ref q → h2[q]? = some (.ins c fs) → T.plain c = true) → wpAny (model X.prog X.w) X.A (compareOp p v u) (EP X pins σ Q) X.xe s := by
            intro b hb1 hb2 hb3 n cc fs e1 e2 e3 e4 e5 e6 epl
            subst e1
            obtain ⟨a1, m1', rfl⟩ := rel_ref r1'
            obtain ⟨hx1, hx2, hx3⟩ := C.fx.oeq cc f e3
            obtain ⟨dx, gs, e7, _⟩ := hr2.cell _ _ _ e2 m1'
            obtain ⟨_, _, _, e8, _⟩ := (show ObjOk X.prog X.w H2 s.heap a1 (.ins (A.ca cc) dx gs) from I.hok a1 _ e7)
            cases r0
            obtain ⟨tv, ty, htv⟩ := ty_any C hr2 r2 e5 e6 epl
            obtain ⟨Pk, kit, hPk, _⟩ := kit_of I ru ty
            obtain ⟨mA, J, _⟩ := ins_get I.hok e7
            obtain ⟨od, J, _⟩ := J.look
            have hod : ∃ od, s.heap.get? dx = some od := by
              have jd := J.dict
              have ja := J.at_
              rw [e8] at ja
              cases ja
              exact ⟨_, jd⟩
            have := hx3 X.A s a1 dx u tv b (EP X pins σ Q) X.xe I.kIn e8 hod (kit.ty _ _ I.kIn hPk) htv (by have := C.room.units; omega) (fun eb => ?_) ?_
            · cases b with
              | true => rw [hb1 rfl]; simpa using this
              | false => rw [hb2 rfl]; simpa using this
            · obtain ⟨q, gs2, e9, e10⟩ := e4 eb
              subst e9
              obtain ⟨q1, q2, q3⟩ := rel_ref r2
              subst q3
              cases ru
              obtain ⟨dq, gs3, e11, _⟩ := hr2.cell _ _ _ e10 q2
              obtain ⟨_, _, _, e12, _⟩ := (show ObjOk X.prog X.w H2 s.heap q1 (.ins (A.ca cc) dq gs3) from I.hok q1 _ e11)
              exact ⟨q1, dq, rfl, e12⟩
            · refine thn (run_cal C tk hx2 (us := [Value.ref a1, u]) (vs := [V.ref a1, y]) (ws := [W.ref n, w2]) I (.cons rfl (.cons ru .nil)) hr2 (.cons r1' (.cons r2 .nil)) o4 (A' := if b then X.A else X.A.in1) (by cases b; exact C.room.in1; exact C.room.mono (Nat.le_succ k)) (by cases b; exact I.env0.in1; exact I.env0)) fun v1 s1 ⟨z, H3, I3, rz, r, ez, q⟩ => ?_
              subst ez
              cases rz
              rw [hb3] at q
              exact ⟨r, rfl, ⟨V.bl (r == b), H3, I3, rfl, q⟩⟩
          unfold ownEq at ef
          split at ef
          · rename_i n
            split at ef
            · rename_i cc fs ec2
              split at ef
              · -- ==
                cases p <;> first | cases hp | skip
                split at ef
                · cases ef
                · cases ef
                · rename_i q
                  split at ef
                  · rename_i j gs e5
                    split at ef
                    · rename_i pj
                      exact rc (b := true) (fun _ => rfl) (fun z => nomatch z) rfl rfl ec2 ef (fun z => nomatch z) (fun _ z => nomatch z) (fun _ z => nomatch z) (fun q' c' fs' z1 z2 => by cases z1; rw [e5] at z2; cases z2; exact pj)
                    · cases ef
                  · rename_i cx hx0 ex0
                    exact rc (b := true) (fun _ => rfl) (fun z => nomatch z) rfl rfl ec2 ef (fun z => nomatch z) (fun _ z => nomatch z) (fun _ z => nomatch z) (fun q' c' fs' z1 z2 => by cases z1; rw [ex0] at z2; cases z2; exact absurd rfl (hx0 c' fs'))
                  · cases ef
                · rename_i n1 n2 n3
                  exact rc (b := true) (fun _ => rfl) (fun z => nomatch z) rfl rfl ec2 ef (fun z => nomatch z) n1 n2 (fun q' c' fs' z1 z2 => absurd z1 (n3 q'))
              · -- !=
                cases p <;> first | cases hp | skip
                split at ef
                · rename_i q
                  split at ef
                  · rename_i j gs e5
                    split at ef
                    · rename_i ej
                      obtain ⟨ej, pj⟩ := ej
                      subst ej
                      exact rc (b := false) (fun z => nomatch z) (fun _ => rfl) rfl rfl ec2 ef (fun _ => ⟨q, gs, rfl, e5⟩) (fun _ z => nomatch z) (fun _ z => nomatch z) (fun q' c' fs' z1 z2 => by cases z1; rw [e5] at z2; cases z2; exact pj)
                    · cases ef
                  · cases ef
                · cases ef
              · cases ef
            · cases ef
          · cases ef
        · exact v_cmp C hp hr2 r1' r2 o2 pins s σ v u I r0 ru)
  exact thn (key pins s I) fun v s1 ⟨x, H1, I1, rx, q⟩ => q pins s1 v I1 rx
/-! ### chains -/
theorem cmp_bl {h : Hs} {c : Cm} {a b : W} {w : W} {h1 : Hs} (e : cmp2 h c a b = .ok w h1) : h1 = h ∧ ∃ r, w = .bl r := by
  unfold cmp2 at e
  split at e <;> first
    | (cases e; exact ⟨rfl, _, rfl⟩)
    | (split at e <;> first | (cases e; exact ⟨rfl, _, rfl⟩) | cases e)
    | cases e
theorem s_chain (C : Cok G N A T cal k X sc) {c d : Cm} {p q : CmpOp} {a b e : Ex} {l r t : Expr} {pos : Pos} (hp : cmIs c p = true) (hq : cmIs d q = true) (ha : SE A T X l (evE T cal a)) (hb : SE A T X r (evE T cal b)) (hc : SE A T X t (evE T cal e))
    (gb : good r = true) (gt : good t = true) : SE A T X (.Compare l [p, q] [r, t] pos) (evE T cal (.chain a c b d e)) ∧ ST A T X (.Compare l [p, q] [r, t] pos) (evE T cal (.chain a c b d e)) := by
  have lm : lastMarks [p, q] [r, t] = false := by
    show behindInMarks q t = false
    exact notSet_marks gt
  have core : ∀ (Wx : WX), Takes X Wx → ∀ m H σ env h Q, HRel X.K A m h H → EnvR X.K A m H env σ → OutW X.K A T m H (evE T cal (.chain a c b d e) env h) Q (fun c d H' => Wx c d σ H') →
      tChain (tO X (compareOp p)) (tO X (compareOp q)) (tE X l) (tE X r) (tE X t) σ H Q := by
    intro Wx tk m H σ env h Q hr he o
    rw [evE] at o
    refine ha Wx tk m H σ env h _ hr he (Out.bind o fun w1 h1 m1 H1 x e1 s1 hr1 r1 o1 => ?_)
    refine hb Wx tk m1 H1 σ env h1 _ hr1 (he.mono s1) (Out.bind o1 fun w2 h2 m2 H2 y e2 s2 hr2 r2 o2 => ?_)
    refine v_cmp C hp hr2 (r1.mono s2) r2 (Out.bind o2 fun w3 h3 m3 H3 z e3 s3 hr3 r3 o3 => ?_)
    obtain ⟨_, b3, rfl⟩ := cmp_bl e3
    cases r3
    refine ⟨b3, rfl, ?_⟩
    cases b3 with
    | true =>
      rw [if_pos rfl]
      refine hc Wx tk m3 H3 σ env h3 _ hr3 ((he.mono s1).mono (s2.trans s3)) (Out.bind o3 fun w4 h4 m4 H4 u e4 s4 hr4 r4 o4 => ?_)
      exact v_cmp C hq hr4 (r2.mono (s3.trans s4)) r4 o4
    | false =>
      rw [if_neg Bool.false_ne_true]
      exact out_ok o3 .rfl' hr3 rfl
  refine ⟨fun Wx tk m H σ env h Q hr he o => tE_of (pe_chain op_w op_w pe_w pe_w pe_w lm) (core Wx tk m H σ env h Q hr he o), fun Wx tk m H σ env h Q hr he o => ?_⟩
  exact tT_of (pt_chain op_w op_w pe_w pe_w pe_w lm) (show tChain _ _ _ _ _ σ H (fun x H1 => ∃ c, x = .bl c ∧ Q c H1) from core Wx tk m H σ env h _ hr he (truth_out o))

/-- a op1 b op2 c op3 d -/
def tChain3 (r r' r3 : R2) (ta tb tc td : TE) : TE := fun σ H Q => ta σ H fun x H1 => tb σ H1 fun y H2 => r x y H2 fun z H3 => ∃ k, z = .bl k ∧
  (if k = true then tc σ H3 fun w' H4 => r' y w' H4 fun z2 H5 => ∃ k2, z2 = .bl k2 ∧ (if k2 = true then td σ H5 fun u' H6 => r3 w' u' H6 Q else Q (.bl false) H5) else Q (.bl false) H3)
theorem pe_chain3 {op op' op3 : CmpOp} {r r' r3 : R2} {a b c d : Expr} {ta tb tc td : TE} {pos : Pos} (ho : OpR X (compareOp op) r) (ho' : OpR X (compareOp op') r') (ho3 : OpR X (compareOp op3) r3) (ha : PE X a ta) (hb : PE X b tb) (hc : PE X c tc) (hd : PE X d td)
    (hm : lastMarks [op, op', op3] [b, c, d] = false) : PE X (.Compare a [op, op', op3] [b, c, d] pos) (tChain3 r r' r3 ta tb tc td) := by
  refine ⟨fun pins s σ H Q I h => ?_⟩
  refine Compare_chain (thn (ha.run pins s σ H _ I h) fun v s1 ⟨x, H1, I1, r1, q1⟩ => chain_link (thn (hb.run pins s1 σ H1 _ I1 q1) fun u s2 ⟨y, H2, I2, r2, q2⟩ =>
    thn (ho pins s2 σ H2 x y v u _ I2 r1 r2 q2) fun dd s3 ⟨z, H3, I3, rz3, k, e, q3⟩ => ?_)) hm
  subst e
  cases rz3
  refine wpAny_truthy_bool ?_
  cases k with
  | false => exact ite_ff ⟨.bl false, H3, I3, rfl, q3⟩
  | true =>
    refine ite_tt (chain_link (thn (hc.run pins s3 σ H3 _ I3 q3) fun w' s4 ⟨z', H4, I4, r4, q4⟩ => thn (ho' pins s4 σ H4 y z' u w' _ I4 r2 r4 q4) fun d2 s5 ⟨z2, H5, I5, rz5, k2, e2, q5⟩ => ?_))
    subst e2
    cases rz5
    refine wpAny_truthy_bool ?_
    cases k2 with
    | false => exact ite_ff ⟨.bl false, H5, I5, rfl, q5⟩
    | true => exact ite_tt (chain_last (thn (hd.run pins s5 σ H5 _ I5 q5) fun u' s6 ⟨z6, H6, I6, r6, q6⟩ => ho3 pins s6 σ H6 z' z6 w' u' Q I6 r4 r6 q6))
theorem pt_chain3 {op op' op3 : CmpOp} {r r' r3 : R2} {a b c d : Expr} {ta tb tc td : TE} {pos : Pos} (ho : OpR X (compareOp op) r) (ho' : OpR X (compareOp op') r') (ho3 : OpR X (compareOp op3) r3) (ha : PE X a ta) (hb : PE X b tb) (hc : PE X c tc) (hd : PE X d td)
    (hm : lastMarks [op, op', op3] [b, c, d] = false) : PT X (.Compare a [op, op', op3] [b, c, d] pos) (tTest (tChain3 r r' r3 ta tb tc td)) := by
  refine ⟨fun pins s σ H Q I h => ?_⟩
  refine isTrue_chain (thn (ha.run pins s σ H _ I h) fun v s1 ⟨x, H1, I1, r1, q1⟩ => test_link (thn (hb.run pins s1 σ H1 _ I1 q1) fun u s2 ⟨y, H2, I2, r2, q2⟩ =>
    thn (ho pins s2 σ H2 x y v u _ I2 r1 r2 q2) fun dd s3 ⟨z, H3, I3, rz3, k, e, q3⟩ => ?_)) hm
  subst e
  cases rz3
  refine wpAny_truthy_bool ?_
  cases k with
  | false =>
    obtain ⟨k', e', q'⟩ := q3
    cases e'
    exact ite_ff ⟨H3, I3, q'⟩
  | true =>
    refine ite_tt (test_link (thn (hc.run pins s3 σ H3 _ I3 q3) fun w' s4 ⟨z', H4, I4, r4, q4⟩ => thn (ho' pins s4 σ H4 y z' u w' _ I4 r2 r4 q4) fun d2 s5 ⟨z2, H5, I5, rz5, k2, e2, q5⟩ => ?_))
    subst e2
    cases rz5
    refine wpAny_truthy_bool ?_
    cases k2 with
    | false =>
      obtain ⟨k', e', q'⟩ := q5
      cases e'
      exact ite_ff ⟨H5, I5, q'⟩
    | true =>
      refine ite_tt (test_last (thn (hd.run pins s5 σ H5 _ I5 q5) fun u' s6 ⟨z6, H6, I6, r6, q6⟩ => thn (ho3 pins s6 σ H6 z' z6 w' u' _ I6 r4 r6 q6) fun d3 s7 ⟨z7, H7, I7, r7, k3, e3, q7⟩ => ?_))
      subst e3
      cases r7
      exact wpAny_truthy_bool ⟨H7, I7, q7⟩
theorem s_chain3 (C : Cok G N A T cal k X sc) {c d kk : Cm} {p q p3 : CmpOp} {a b e f : Ex} {l r t u : Expr} {pos : Pos} (hp : cmIs c p = true) (hq : cmIs d q = true) (hp3 : cmIs kk p3 = true) (ha : SE A T X l (evE T cal a)) (hb : SE A T X r (evE T cal b)) (hc : SE A T X t (evE T cal e)) (hd : SE A T X u (evE T cal f))
    (gb : good r = true) (gt : good t = true) (gu : good u = true) : SE A T X (.Compare l [p, q, p3] [r, t, u] pos) (evE T cal (.chain3 a c b d e kk f)) ∧ ST A T X (.Compare l [p, q, p3] [r, t, u] pos) (evE T cal (.chain3 a c b d e kk f)) := by
  have lm : lastMarks [p, q, p3] [r, t, u] = false := by
    show behindInMarks p3 u = false
    exact notSet_marks gu
  have core : ∀ (Wx : WX), Takes X Wx → ∀ m H σ env h Q, HRel X.K A m h H → EnvR X.K A m H env σ → OutW X.K A T m H (evE T cal (.chain3 a c b d e kk f) env h) Q (fun c d H' => Wx c d σ H') →
      tChain3 (tO X (compareOp p)) (tO X (compareOp q)) (tO X (compareOp p3)) (tE X l) (tE X r) (tE X t) (tE X u) σ H Q := by
    intro Wx tk m H σ env h Q hr he o
    rw [evE] at o
    refine ha Wx tk m H σ env h _ hr he (Out.bind o fun w1 h1 m1 H1 x e1 s1 hr1 r1 o1 => ?_)
    refine hb Wx tk m1 H1 σ env h1 _ hr1 (he.mono s1) (Out.bind o1 fun w2 h2 m2 H2 y e2 s2 hr2 r2 o2 => ?_)
    refine v_cmp C hp hr2 (r1.mono s2) r2 (Out.bind o2 fun w3 h3 m3 H3 z e3 s3 hr3 r3 o3 => ?_)
    obtain ⟨_, b3, rfl⟩ := cmp_bl e3
    cases r3
    refine ⟨b3, rfl, ?_⟩
    cases b3 with
    | true =>
      rw [if_pos rfl]
      refine hc Wx tk m3 H3 σ env h3 _ hr3 ((he.mono s1).mono (s2.trans s3)) (Out.bind o3 fun w4 h4 m4 H4 u4 e4 s4 hr4 r4 o4 => ?_)
      refine v_cmp C hq hr4 (r2.mono (s3.trans s4)) r4 (Out.bind o4 fun w5 h5 m5 H5 z5 e5 s5 hr5 r5 o5 => ?_)
      obtain ⟨_, b5, rfl⟩ := cmp_bl e5
      cases r5
      refine ⟨b5, rfl, ?_⟩
      cases b5 with
      | true =>
        rw [if_pos rfl]
        refine hd Wx tk m5 H5 σ env h5 _ hr5 (((he.mono s1).mono (s2.trans s3)).mono (s4.trans s5)) (Out.bind o5 fun w6 h6 m6 H6 u6 e6 s6 hr6 r6 o6 => ?_)
        exact v_cmp C hp3 hr6 (r4.mono (s5.trans s6)) r6 o6
      | false =>
        rw [if_neg Bool.false_ne_true]
        exact out_ok o5 .rfl' hr5 rfl
    | false =>
      rw [if_neg Bool.false_ne_true]
      exact out_ok o3 .rfl' hr3 rfl
  refine ⟨fun Wx tk m H σ env h Q hr he o => tE_of (pe_chain3 op_w op_w op_w pe_w pe_w pe_w pe_w lm) (core Wx tk m H σ env h Q hr he o), fun Wx tk m H σ env h Q hr he o => ?_⟩
  exact tT_of (pt_chain3 op_w op_w op_w pe_w pe_w pe_w pe_w lm) (show tChain3 _ _ _ _ _ _ _ σ H (fun x H1 => ∃ c, x = .bl c ∧ Q c H1) from core Wx tk m H σ env h _ hr he (truth_out o))

/-! ### and, or, not, conditional expressions -/
theorem s_and2 (C : Cok G N A T cal k X sc) {a b : Ex} {v w : Expr} {pos : Pos} (ha : SE A T X v (evE T cal a)) (ta : ST A T X v (evE T cal a)) (hb : SE A T X w (evE T cal b)) (tb : ST A T X w (evE T cal b)) : SE A T X (.BoolOp .And [v, w] pos) (evE T cal (.and a b)) ∧ ST A T X (.BoolOp .And [v, w] pos) (evE T cal (.and a b)) := by
  refine ⟨fun Wx tk m H σ env h Q hr he o => tE_of (pe_and pe_w (pe_one pe_w)) ?_, fun Wx tk m H σ env h Q hr he o => tT_of (pw_and pt_w (pw_and1 pt_w)).pt ?_⟩
  · rw [evE] at o
    refine ha Wx tk m H σ env h _ hr he (Out.bind o fun w1 h1 m1 H1 x e1 s1 hr1 r1 o1 => ?_)
    cases w1 with
    | bl c =>
      cases r1
      refine ⟨c, rfl, ?_⟩
      cases c with
      | true => rw [if_pos rfl]; exact hb Wx tk m1 H1 σ env h1 _ hr1 (he.mono s1) o1
      | false => rw [if_neg Bool.false_ne_true]; exact out_ok o1 .rfl' hr1 rfl
    | _ => exact (show False from o1).elim
  · rw [evE] at o
    have o' : Out X.K A T (fun _ _ b c => b = c) m H ((truthR (evE T cal a env h)).bind fun c h1 => match c with | true => truthR (evE T cal b env h1) | false => .ok false h1) Q (fun c d H' => Wx c d σ H') := by
      cases e : evE T cal a env h with
      | ok w1 h1 =>
        rw [e] at o
        cases w1 with
        | bl c => cases c <;> exact o
        | _ => exact (show False from o).elim
      | raise c vs h1 => rw [e] at o; exact o
      | stuck => rw [e] at o; exact o
    refine ta Wx tk m H σ env h _ hr he (Out.bind o' fun c h1 m1 H1 x e1 s1 hr1 r1 o1 => ?_)
    cases r1
    cases c with
    | true => rw [if_pos rfl]; exact tb Wx tk m1 H1 σ env h1 _ hr1 (he.mono s1) o1
    | false => rw [if_neg Bool.false_ne_true]; exact out_ok o1 .rfl' hr1 rfl
theorem s_andr (C : Cok G N A T cal k X sc) {a b : Ex} {v w u : Expr} {ws : List Expr} {pos : Pos} (ha : SE A T X v (evE T cal a)) (ta : ST A T X v (evE T cal a)) (hb : SE A T X (.BoolOp .And (w :: u :: ws) pos) (evE T cal b))
    (tb : ST A T X (.BoolOp .And (w :: u :: ws) pos) (evE T cal b)) : SE A T X (.BoolOp .And (v :: w :: u :: ws) pos) (evE T cal (.and a b)) ∧ ST A T X (.BoolOp .And (v :: w :: u :: ws) pos) (evE T cal (.and a b)) := by
  have pw : PW X (.BoolOp .And (w :: u :: ws) pos) (tT X (.BoolOp .And (w :: u :: ws) pos)) := ⟨fun wh pins s σ H Q I h => by
    have := h pins s I
    exact this⟩
  refine ⟨fun Wx tk m H σ env h Q hr he o => tE_of (pe_and pe_w pe_w) ?_, fun Wx tk m H σ env h Q hr he o => tT_of (pw_and pt_w pw).pt ?_⟩
  · rw [evE] at o
    refine ha Wx tk m H σ env h _ hr he (Out.bind o fun w1 h1 m1 H1 x e1 s1 hr1 r1 o1 => ?_)
    cases w1 with
    | bl c =>
      cases r1
      refine ⟨c, rfl, ?_⟩
      cases c with
      | true => rw [if_pos rfl]; exact hb Wx tk m1 H1 σ env h1 _ hr1 (he.mono s1) o1
      | false => rw [if_neg Bool.false_ne_true]; exact out_ok o1 .rfl' hr1 rfl
    | _ => exact (show False from o1).elim
  · rw [evE] at o
    have o' : Out X.K A T (fun _ _ b c => b = c) m H ((truthR (evE T cal a env h)).bind fun c h1 => match c with | true => truthR (evE T cal b env h1) | false => .ok false h1) Q (fun c d H' => Wx c d σ H') := by
      cases e : evE T cal a env h with
      | ok w1 h1 =>
        rw [e] at o
        cases w1 with
        | bl c => cases c <;> exact o
        | _ => exact (show False from o).elim
      | raise c vs h1 => rw [e] at o; exact o
      | stuck => rw [e] at o; exact o
    refine ta Wx tk m H σ env h _ hr he (Out.bind o' fun c h1 m1 H1 x e1 s1 hr1 r1 o1 => ?_)
    cases r1
    cases c with
    | true => rw [if_pos rfl]; exact tb Wx tk m1 H1 σ env h1 _ hr1 (he.mono s1) o1
    | false => rw [if_neg Bool.false_ne_true]; exact out_ok o1 .rfl' hr1 rfl
theorem s_or2 (C : Cok G N A T cal k X sc) {a b : Ex} {v w : Expr} {pos : Pos} (ha : SE A T X v (evE T cal a)) (ta : ST A T X v (evE T cal a)) (hb : SE A T X w (evE T cal b)) (tb : ST A T X w (evE T cal b)) : SE A T X (.BoolOp .Or [v, w] pos) (evE T cal (.or a b)) ∧ ST A T X (.BoolOp .Or [v, w] pos) (evE T cal (.or a b)) := by
  refine ⟨fun Wx tk m H σ env h Q hr he o => tE_of (pe_or pe_w (pe_one pe_w)) ?_, fun Wx tk m H σ env h Q hr he o => tT_of (pw_or pt_w (pw_or1 pt_w)).pt ?_⟩
  · rw [evE] at o
    refine ha Wx tk m H σ env h _ hr he (Out.bind o fun w1 h1 m1 H1 x e1 s1 hr1 r1 o1 => ?_)
    cases w1 with
    | bl c =>
      cases r1
      refine ⟨c, rfl, ?_⟩
      cases c with
      | true => rw [if_pos rfl]; exact out_ok o1 .rfl' hr1 rfl
      | false => rw [if_neg Bool.false_ne_true]; exact hb Wx tk m1 H1 σ env h1 _ hr1 (he.mono s1) o1
    | _ => exact (show False from o1).elim
  · rw [evE] at o
    have o' : Out X.K A T (fun _ _ b c => b = c) m H ((truthR (evE T cal a env h)).bind fun c h1 => match c with | true => .ok true h1 | false => truthR (evE T cal b env h1)) Q (fun c d H' => Wx c d σ H') := by
      cases e : evE T cal a env h with
      | ok w1 h1 =>
        rw [e] at o
        cases w1 with
        | bl c => cases c <;> exact o
        | _ => exact (show False from o).elim
      | raise c vs h1 => rw [e] at o; exact o
      | stuck => rw [e] at o; exact o
    refine ta Wx tk m H σ env h _ hr he (Out.bind o' fun c h1 m1 H1 x e1 s1 hr1 r1 o1 => ?_)
    cases r1
    cases c with
    | true => rw [if_pos rfl]; exact out_ok o1 .rfl' hr1 rfl
    | false => rw [if_neg Bool.false_ne_true]; exact tb Wx tk m1 H1 σ env h1 _ hr1 (he.mono s1) o1
theorem s_orr (C : Cok G N A T cal k X sc) {a b : Ex} {v w u : Expr} {ws : List Expr} {pos : Pos} (ha : SE A T X v (evE T cal a)) (ta : ST A T X v (evE T cal a)) (hb : SE A T X (.BoolOp .Or (w :: u :: ws) pos) (evE T cal b))
    (tb : ST A T X (.BoolOp .Or (w :: u :: ws) pos) (evE T cal b)) : SE A T X (.BoolOp .Or (v :: w :: u :: ws) pos) (evE T cal (.or a b)) ∧ ST A T X (.BoolOp .Or (v :: w :: u :: ws) pos) (evE T cal (.or a b)) := by
  have pw : PW X (.BoolOp .Or (w :: u :: ws) pos) (tT X (.BoolOp .Or (w :: u :: ws) pos)) := ⟨fun wh pins s σ H Q I h => by
    have := h pins s I
    exact this⟩
  refine ⟨fun Wx tk m H σ env h Q hr he o => tE_of (pe_or pe_w pe_w) ?_, fun Wx tk m H σ env h Q hr he o => tT_of (pw_or pt_w pw).pt ?_⟩
  · rw [evE] at o
    refine ha Wx tk m H σ env h _ hr he (Out.bind o fun w1 h1 m1 H1 x e1 s1 hr1 r1 o1 => ?_)
    cases w1 with
    | bl c =>
      cases r1
      refine ⟨c, rfl, ?_⟩
      cases c with
      | true => rw [if_pos rfl]; exact out_ok o1 .rfl' hr1 rfl
      | false => rw [if_neg Bool.false_ne_true]; exact hb Wx tk m1 H1 σ env h1 _ hr1 (he.mono s1) o1
    | _ => exact (show False from o1).elim
  · rw [evE] at o
    have o' : Out X.K A T (fun _ _ b c => b = c) m H ((truthR (evE T cal a env h)).bind fun c h1 => match c with | true => .ok true h1 | false => truthR (evE T cal b env h1)) Q (fun c d H' => Wx c d σ H') := by
      cases e : evE T cal a env h with
      | ok w1 h1 =>
        rw [e] at o
        cases w1 with
        | bl c => cases c <;> exact o
        | _ => exact (show False from o).elim
      | raise c vs h1 => rw [e] at o; exact o
      | stuck => rw [e] at o; exact o
    refine ta Wx tk m H σ env h _ hr he (Out.bind o' fun c h1 m1 H1 x e1 s1 hr1 r1 o1 => ?_)
    cases r1
    cases c with
    | true => rw [if_pos rfl]; exact out_ok o1 .rfl' hr1 rfl
    | false => rw [if_neg Bool.false_ne_true]; exact tb Wx tk m1 H1 σ env h1 _ hr1 (he.mono s1) o1
theorem s_not (C : Cok G N A T cal k X sc) {a : Ex} {v : Expr} {pos : Pos} (ha : SE A T X v (evE T cal a)) (ta : ST A T X v (evE T cal a)) : SE A T X (.UnaryOp .Not v pos) (evE T cal (.not a)) ∧ ST A T X (.UnaryOp .Not v pos) (evE T cal (.not a)) := by
  refine ⟨fun Wx tk m H σ env h Q hr he o => tE_of (pe_not pe_w) ?_, fun Wx tk m H σ env h Q hr he o => tT_of (pt_not pt_w) ?_⟩
  · rw [evE] at o
    refine ha Wx tk m H σ env h _ hr he (Out.bind o fun w1 h1 m1 H1 x e1 s1 hr1 r1 o1 => ?_)
    cases w1 with
    | bl c => cases r1; exact ⟨c, rfl, out_ok o1 .rfl' hr1 rfl⟩
    | _ => exact (show False from o1).elim
  · rw [evE] at o
    have o' : Out X.K A T (fun _ _ b c => b = c) m H ((truthR (evE T cal a env h)).bind fun c h1 => .ok (!c) h1) Q (fun c d H' => Wx c d σ H') := by
      cases e : evE T cal a env h with
      | ok w1 h1 =>
        rw [e] at o
        cases w1 with
        | bl c => exact o
        | _ => exact (show False from o).elim
      | raise c vs h1 => rw [e] at o; exact o
      | stuck => rw [e] at o; exact o
    refine ta Wx tk m H σ env h _ hr he (Out.bind o' fun c h1 m1 H1 x e1 s1 hr1 r1 o1 => ?_)
    cases r1
    exact out_ok o1 .rfl' hr1 rfl
theorem s_ite (C : Cok G N A T cal k X sc) {c a b : Ex} {t v w : Expr} {pos : Pos} (tc : ST A T X t (evE T cal c)) (ha : SE A T X v (evE T cal a)) (hb : SE A T X w (evE T cal b)) : SE A T X (.IfExp t v w pos) (evE T cal (.ite c a b)) := by
  intro Wx tk m H σ env h Q hr he o
  refine tE_of (pe_ifExp pt_w pe_w pe_w) ?_
  rw [evE] at o
  have o' : OutW X.K A T m H ((truthR (evE T cal c env h)).bind fun c h1 => match c with | true => evE T cal a env h1 | false => evE T cal b env h1) Q (fun c d H' => Wx c d σ H') := by
    cases e : evE T cal c env h with
    | ok w1 h1 =>
      rw [e] at o
      cases w1 with
      | bl c => cases c <;> exact o
      | _ => exact (show False from o).elim
    | raise c vs h1 => rw [e] at o; exact o
    | stuck => rw [e] at o; exact o
  refine tc Wx tk m H σ env h _ hr he (Out.bind o' fun c h1 m1 H1 x e1 s1 hr1 r1 o1 => ?_)
  cases r1
  cases c with
  | true => rw [if_pos rfl]; exact ha Wx tk m1 H1 σ env h1 _ hr1 (he.mono s1) o1
  | false => rw [if_neg Bool.false_ne_true]; exact hb Wx tk m1 H1 σ env h1 _ hr1 (he.mono s1) o1
/-! ### operators -/
theorem s_op {o : Op2} {p : Operator} {a b : Ex} {l r : Expr} {pos : Pos} (hp : opIs o p = true) (ha : SE A T X l (evE T cal a)) (hb : SE A T X r (evE T cal b)) : SE A T X (.BinOp l p r pos) (evE T cal (.op o a b)) := by
  intro Wx tk m H σ env h Q hr he out
  refine tE_of (pe_op op_w pe_w pe_w) ?_
  rw [evE] at out
  refine ha Wx tk m H σ env h _ hr he (Out.bind out fun w1 h1 m1 H1 x e1 s1 hr1 r1 o1 => ?_)
  refine hb Wx tk m1 H1 σ env h1 _ hr1 (he.mono s1) (Out.bind o1 fun w2 h2 m2 H2 y e2 s2 hr2 r2 o2 => ?_)
  exact v_op hp hr2 (r1.mono s2) r2 o2
theorem s_neg {a : Ex} {v : Expr} {pos : Pos} (ha : SE A T X v (evE T cal a)) : SE A T X (.UnaryOp .USub v pos) (evE T cal (.neg a)) := by
  intro Wx tk m H σ env h Q hr he out
  refine tE_of (pe_un un_neg pe_w) ?_
  rw [evE] at out
  refine ha Wx tk m H σ env h _ hr he (Out.bind out fun w1 h1 m1 H1 x e1 s1 hr1 r1 o1 => ?_)
  cases w1 with
  | int i => exact ⟨i, r1, out_ok o1 .rfl' hr1 rfl⟩
  | _ => exact (show False from o1).elim
/-! ### argument lists, displays -/
theorem star_cons {e : Expr} (h : good e = true) (es : List Expr) (env : PySem.Env) : starEach (e :: es) env = (false, eval e env) :: starEach es env := by
  cases e <;> first | rfl | cases h
theorem s_anil : SA A T X [] (evEs T cal .nil) := fun Wx tk m H σ env h Q hr he o => tA_of pa_nil (out_ok o .rfl' hr rfl)
theorem s_acons {e : Ex} {es : Exs} {x : Expr} {xs : List Expr} (g : good x = true) (ha : SE A T X x (evE T cal e)) (hb : SA A T X xs (evEs T cal es)) : SA A T X (x :: xs) (evEs T cal (.cons e es)) := by
  intro Wx tk m H σ env h Q hr he out
  refine tA_of (pa_cons pe_w pa_w (star_cons g xs _)) ?_
  rw [evEs] at out
  refine ha Wx tk m H σ env h _ hr he (Out.bind out fun w1 h1 m1 H1 x e1 s1 hr1 r1 o1 => ?_)
  refine hb Wx tk m1 H1 σ env h1 _ hr1 (he.mono s1) (Out.bind o1 fun w2 h2 m2 H2 y e2 s2 hr2 r2 o2 => ?_)
  exact out_ok o2 .rfl' hr2 (.cons (r1.mono s2) r2)
theorem s_tup {es : Exs} {xs : List Expr} {n : Nat} {pos : Pos} (hb : SA A T X xs (evEs T cal es)) : SE A T X (.Tuple xs n pos) (evE T cal (.tup es)) := by
  intro Wx tk m H σ env h Q hr he out
  refine tE_of (pe_tup pa_w) ?_
  rw [evE] at out
  refine hb Wx tk m H σ env h _ hr he (Out.bind out fun w1 h1 m1 H1 x e1 s1 hr1 r1 o1 => ?_)
  obtain ⟨c, o1⟩ := out_if o1
  exact ⟨by rw [sz, ← r1.length]; exact c, fun p n => out_tup hr1 r1 o1 p n⟩
theorem fresh_back {A : Nm} {m m1 : Mp} {h1 : Hs} {H H1 : Hp} {p : Addr} (s : Stp m H m1 H1) (hr : HRel X.K A m1 h1 H1) (n : H1 p = none) : H p = none := by
  cases e : H p with
  | none => rfl
  | some o =>
    by_cases hm : p ∈ m
    · obtain ⟨r, hlt, er⟩ := List.mem_iff_getElem.mp hm
      obtain ⟨u, q⟩ := hr.has (mem_of_get (s.pre r p (by rw [List.getElem?_eq_getElem hlt, er])))
      rw [n] at q; cases q
    · rw [s.fr p o e hm] at n; cases n
theorem out_lstD {A : Nm} {T : Tab} {E : XK} {m0 m : Mp} {h : Hs} {H0 H : Hp} {Q : VK} {ws : List W} {vs : List V} (s : Stp m0 H0 m H) (hr : HRel X.K A m h H) (r : RelWs X.K A m H ws vs) (o : Out X.K A T (RelD A X.K H0) m H (.ok ws h) Q E) (p : Addr) (n : H p = none) : Q (.ref p) (upd H p (.lst vs)) := by
  refine o m _ _ (Stp.laid n) (hr.laid n) ⟨p, vs, rfl, upd_same, fun z => ?_, fresh_back s hr n, r.mono (Stp.laid n)⟩
  obtain ⟨o, e⟩ := hr.has z
  rw [n] at e; cases e
theorem s_disp {es : Exs} {xs : List Expr} {pos : Pos} (hb : SA A T X xs (evEs T cal es)) : SL A T X (.List xs pos) (evL T cal (.disp es)) := by
  intro Wx tk m H σ env h Q hr he out
  refine tE_of (pe_lst pa_w) ?_
  rw [evL] at out
  refine hb Wx tk m H σ env h _ hr he (Out.bind out fun w1 h1 m1 H1 x e1 s1 hr1 r1 o1 => ?_)
  obtain ⟨c, o1⟩ := out_if o1
  exact ⟨by rw [sz, ← r1.length]; exact c, fun p n => out_lstD s1 hr1 r1 o1 p n⟩
/-- a list made on the spot becomes one that the map knows -/
theorem s_lst {l : Le} {e : Expr} (hl : SL A T X e (evL T cal l)) : SE A T X e (evE T cal (.lst l)) := by
  intro Wx tk m H σ env h Q hr he out
  rw [evE] at out
  refine hl Wx tk m H σ env h Q hr he ?_
  cases er : evL T cal l env h with
  | stuck => rw [er] at out; exact out
  | raise c vs h1 => rw [er] at out; exact out
  | ok ws h1 =>
    rw [er] at out
    intro m1 H1 x s1 hr1 r1
    obtain ⟨D, vs, rfl, hD, nD, n0, rv⟩ := r1
    have pre : ∀ (r : Nat) a, m1[r]? = some a → (m1 ++ [D])[r]? = some a := fun r a e => by rw [List.getElem?_append_left (getE_lt e)]; exact e
    have st : Stp m H (m1 ++ [D]) H1 := ⟨fun r a e => pre r a (s1.pre r a e), s1.fr, s1.tp, fun a ha => by
      rcases List.mem_append.mp ha with z | z
      · exact s1.nw a z
      · rw [List.mem_singleton.mp z]; exact .inr n0, s1.fz⟩
    -- what was related stays so, the heap the same
    have mo : ∀ {w : W} {v : V}, RelW X.K A m1 H1 w v → RelW X.K A (m1 ++ [D]) H1 w v := fun r => by
      have aux : (∀ (w : W) (v : V), RelW X.K A m1 H1 w v → RelW X.K A (m1 ++ [D]) H1 w v) := rel_more pre
      exact aux _ _ r
    have hr2 : HRel X.K A (m1 ++ [D]) (h1 ++ [.lst ws]) H1 := hr1.more hD nD (rels_more pre ws vs rv)
    exact out (m1 ++ [D]) H1 (.ref D) st hr2 ⟨D, grown_at hr1, rfl⟩
end
end MP
end

section
set_option Elab.async false
set_option linter.all false
set_option maxRecDepth 100000
set_option maxHeartbeats 8000000
/-! MiniPy: argument lists with keywords, calls of defs, of classes, of methods. -/
namespace MP
open PySem PySem.Spec PyProof.Rows L2

section
variable {G : Glo} {N : List Str} {A : Nm} {T : Tab} {cal : Nat → List W → Hs → R W} {k : Nat} {X : Cx} {sc : Scope}
/-- each of a list runs as its image runs -/
def AllSE (A : Nm) (T : Tab) (cal : Nat → List W → Hs → R W) (X : Cx) : Exs → List Expr → Prop
  | .nil, [] => True
  | .cons e es, x :: xs => good x = true ∧ SE A T X x (evE T cal e) ∧ AllSE A T cal X es xs
  | _, _ => False
theorem AllSE.good : ∀ {es : Exs} {xs : List Expr}, AllSE A T cal X es xs → xs.all good = true
  | .nil, [], _ => rfl
  | .cons e es, x :: xs, ⟨g, _, r⟩ => by rw [List.all_cons, g, r.good]; rfl
  | .nil, _ :: _, h => h.elim
  | .cons _ _, [], h => h.elim
theorem stars {xs : List Expr} (h : xs.all good = true) (pos : Pos) (env : PySem.Env) : (backTo pos (starEach xs env)).any (·.1) = false := by
  induction xs with
  | nil => rfl
  | cons x xs ih =>
    rw [List.all_cons, Bool.and_eq_true] at h
    rw [star_cons h.1]
    show (false || (backTo pos (starEach xs env)).any (·.1)) = false
    rw [ih h.2]; rfl
theorem kw_names (pos : Pos) (env : PySem.Env) : ∀ kws : List Keyword, (backToKw pos (keywordEach kws env)).filterMap (·.1) = kws.filterMap (·.arg)
  | [] => rfl
  | ⟨n, v, p⟩ :: r => by
    have ih := kw_names pos env r
    show List.filterMap (·.1) ((n, _) :: backToKw pos (keywordEach r env)) = _
    rw [List.filterMap_cons, List.filterMap_cons, ih]
theorem kw_all (pos : Pos) (env : PySem.Env) : ∀ {kws : List Keyword}, kwOk kws = true → (backToKw pos (keywordEach kws env)).all (·.1.isSome) = true ∧ (backToKw pos (keywordEach kws env)).any (·.1.isNone) = false
  | [], _ => ⟨rfl, rfl⟩
  | ⟨n, v, p⟩ :: r, h => by
    unfold kwOk at h
    rw [List.all_cons, Bool.and_eq_true] at h
    obtain ⟨i1, i2⟩ := kw_all pos env (kws := r) (by unfold kwOk; exact h.2)
    have hn : n.isSome = true := h.1
    refine ⟨?_, ?_⟩
    · show (n.isSome && (backToKw pos (keywordEach r env)).all (·.1.isSome)) = true
      rw [hn, i1]; rfl
    · show (n.isNone || (backToKw pos (keywordEach r env)).any (·.1.isNone)) = false
      rw [i2]
      cases n with
      | none => cases hn
      | some _ => rfl
theorem kw_len : ∀ {kws : List Keyword}, kwOk kws = true → (kws.filterMap (·.arg)).length = kws.length
  | [], _ => rfl
  | ⟨n, v, p⟩ :: r, h => by
    unfold kwOk at h
    rw [List.all_cons, Bool.and_eq_true] at h
    have ih := kw_len (kws := r) (by unfold kwOk; exact h.2)
    cases n with
    | none => cases h.1
    | some x => rw [List.filterMap_cons]; simp [ih]
theorem s_kws (Wx : WX) (tk : Takes X Wx) : ∀ (kws : List Keyword) (es : Exs), AllSE A T cal X es (kws.map fun k => k.value) → ∀ m H σ env h Q, HRel X.K A m h H → EnvR X.K A m H env σ →
    OutL X.K A T m H (evEs T cal es env h) Q (fun c d H' => Wx c d σ H') → tK X kws σ H (fun zs H1 => zs.length = kws.length ∧ Q zs H1)
  | [], .nil, _, m, H, σ, env, h, Q, hr, he, o => tK_of pk_nil ⟨rfl, out_ok o .rfl' hr rfl⟩
  | [], .cons _ _, z, _, _, _, _, _, _, _, _, _ => z.elim
  | _ :: _, .nil, z, _, _, _, _, _, _, _, _, _ => z.elim
  | ⟨n, v, p⟩ :: r, .cons e es, ⟨_, se, al⟩, m, H, σ, env, h, Q, hr, he, o => by
    refine tK_of (pk_cons (nm := n) (kpos := p) pe_w pk_w) ?_
    rw [evEs] at o
    refine se Wx tk m H σ env h _ hr he (Out.bind o fun w1 h1 m1 H1 x e1 s1 hr1 r1 o1 => ?_)
    have o2 : OutL X.K A T m1 H1 (evEs T cal es env h1) (fun zs H2 => Q (x :: zs) H2) (fun c d H' => Wx c d σ H') := Out.bind o1 fun w2 h2 m2 H2 y e2 s2 hr2 r2 o2 => out_ok o2 .rfl' hr2 (.cons (r1.mono s2) r2)
    have := s_kws Wx tk r es al m1 H1 σ env h1 _ hr1 (he.mono s1) o2
    exact fun pos pins s I => thn (this pos pins s I) fun us s2 ⟨zs, H2, I2, rz, hl, q⟩ => ⟨zs, H2, I2, rz, by rw [List.length_cons, List.length_cons, hl], q⟩
/-- positional values, then the keywords' values -/
theorem s_args (Wx : WX) (tk : Takes X Wx) : ∀ (xs : List Expr) (kws : List Keyword) (es : Exs), AllSE A T cal X es (xs ++ kws.map fun k => k.value) → ∀ m H σ env h Q, HRel X.K A m h H → EnvR X.K A m H env σ →
    OutL X.K A T m H (evEs T cal es env h) Q (fun c d H' => Wx c d σ H') → tA X xs σ H (fun vs H1 => vs.length = xs.length ∧ tK X kws σ H1 (fun zs H2 => zs.length = kws.length ∧ Q (vs ++ zs) H2))
  | [], kws, es, al, m, H, σ, env, h, Q, hr, he, o => tA_of pa_nil ⟨rfl, s_kws Wx tk kws es al m H σ env h Q hr he o⟩
  | x :: xs, kws, .nil, z, _, _, _, _, _, _, _, _, _ => z.elim
  | x :: xs, kws, .cons e es, ⟨g, se, al⟩, m, H, σ, env, h, Q, hr, he, o => by
    refine tA_of (pa_cons pe_w pa_w (star_cons g xs _)) ?_
    rw [evEs] at o
    refine se Wx tk m H σ env h _ hr he (Out.bind o fun w1 h1 m1 H1 x1 e1 s1 hr1 r1 o1 => ?_)
    have o2 : OutL X.K A T m1 H1 (evEs T cal es env h1) (fun zs H2 => Q (x1 :: zs) H2) (fun c d H' => Wx c d σ H') := Out.bind o1 fun w2 h2 m2 H2 y e2 s2 hr2 r2 o2 => out_ok o2 .rfl' hr2 (.cons (r1.mono s2) r2)
    have := s_args Wx tk xs kws es al m1 H1 σ env h1 _ hr1 (he.mono s1) o2
    exact fun pos pins s I => thn (this pos pins s I) fun us s2 ⟨zs, H2, I2, rz, hl, q⟩ => ⟨zs, H2, I2, rz, by rw [List.length_cons, List.length_cons, hl], q⟩
theorem s_all : ∀ {es : Exs} {xs : List Expr}, AllSE A T cal X es xs → SA A T X xs (evEs T cal es)
  | .nil, [], _ => s_anil
  | .cons e es, x :: xs, ⟨g, se, al⟩ => s_acons g se (s_all al)
  | .nil, _ :: _, h => h.elim
  | .cons _ _, [], h => h.elim

/-! ### calls -/
/-- positional values (if any), then the keywords' -/
def tAK (X : Cx) (xs : List Expr) (kws : List Keyword) (σ : L2.St) (H : Hp) (Q : List V → List V → Hp → Prop) : Prop := match xs with
  | [] => tK X kws σ H (fun zs H2 => zs.length = kws.length ∧ Q [] zs H2)
  | x :: r => tA X (x :: r) σ H (fun vs H1 => vs.length = (x :: r).length ∧ tK X kws σ H1 (fun zs H2 => zs.length = kws.length ∧ Q vs zs H2))
theorem s_ak (Wx : WX) (tk : Takes X Wx) (xs : List Expr) (kws : List Keyword) (es : Exs) (al : AllSE A T cal X es (xs ++ kws.map fun k => k.value)) (m : Mp) (H : Hp) (σ : L2.St) (env : Env) (h : Hs) (Q : List V → Hp → Prop) (hr : HRel X.K A m h H) (he : EnvR X.K A m H env σ)
    (o : OutL X.K A T m H (evEs T cal es env h) Q (fun c d H' => Wx c d σ H')) : tAK X xs kws σ H (fun vs zs H2 => vs.length = xs.length ∧ Q (vs ++ zs) H2) := by
  cases xs with
  | nil => 
    have := s_kws Wx tk kws es al m H σ env h Q hr he o
    exact fun pos pins s I => thn (this pos pins s I) fun us s2 ⟨zs, H2, I2, rz, hl, q⟩ => ⟨zs, H2, I2, rz, hl, rfl, q⟩
  | cons x r =>
    have := s_args Wx tk (x :: r) kws es al m H σ env h Q hr he o
    exact fun pos pins s I => thn (this pos pins s I) fun us s2 ⟨vs, H2, I2, rz, hl, q⟩ => ⟨vs, H2, I2, rz, hl, fun pos pins s I => thn (q pos pins s I) fun us s3 ⟨zs, H3, I3, r3, hz, q3⟩ => ⟨zs, H3, I3, r3, hz, hl, q3⟩⟩
/-- what is between a callee and its values -/
theorem cw {f : Value} {first : List Value} {xs : List Expr} {kws : List Keyword} {pos : Pos} {pins : List (Addr × Obj)} {σ : L2.St} {H : Hp} {s : Shared} {Q : Value → Shared → Prop} (I : Inv X pins σ H s) (hk : PySem.W.keepIn X.K f = true) (g : xs.all good = true) (ok : kwOk kws = true)
    (h : tAK X xs kws σ H (fun vs zs H2 => ∀ us ws s2, Inv X pins σ H2 s2 → Vals vs us → Vals zs ws → zs.length = kws.length → wpAny (model X.prog X.w) X.A (call f (first ++ us) ((kws.filterMap (·.arg)).zip ws)) Q X.xe s2)) :
    wpAny (model X.prog X.w) X.A (callWith pos f first (backTo pos (starEach xs X.env)) (backToKw pos (keywordEach kws X.env))) Q X.xe s := by
  obtain ⟨a1, a2⟩ := kw_all pos X.env ok
  have st := stars g pos X.env
  cases xs with
  | nil =>
    refine PySem.W.callWith_KW0 (h₀ := X.base) I.ok.mod.kin hk a1 ?_ (by rw [a2]; rfl)
    refine thn (h pos pins s I) fun ws s2 ⟨zs, H2, I2, rz, hz, q2⟩ => ⟨I2.kIn, ?_⟩
    rw [kw_names]
    exact q2 [] ws s2 I2 .nil rz hz
  | cons x xs =>
    rw [List.all_cons, Bool.and_eq_true] at g
    refine PySem.W.callWith_KW (h₀ := X.base) I.ok.mod.kin hk a1 (thn (h pos pins s I) fun us s1 ⟨vs, H1, I1, r, hl, q⟩ => ?_) (by rw [st, a2]; rfl) (star_cons g.1 _ _)
    refine thn (q pos pins s1 I1) fun ws s2 ⟨zs, H2, I2, rz, hz, q2⟩ => ⟨I2.kIn, ?_⟩
    rw [kw_names]
    exact q2 us ws s2 I2 r rz hz
theorem tAK_mono {xs : List Expr} {kws : List Keyword} {σ : L2.St} {H : Hp} {Q Q' : List V → List V → Hp → Prop} (h : tAK X xs kws σ H Q) (k : ∀ vs zs H2, Q vs zs H2 → Q' vs zs H2) : tAK X xs kws σ H Q' := by
  cases xs with
  | nil => exact fun pos pins s I => thn (h pos pins s I) fun us s2 ⟨zs, H2, I2, rz, hl, q⟩ => ⟨zs, H2, I2, rz, hl, k _ _ _ q⟩
  | cons x r => exact fun pos pins s I => thn (h pos pins s I) fun us s2 ⟨vs, H2, I2, rz, hl, q⟩ => ⟨vs, H2, I2, rz, hl, fun pos pins s I => thn (q pos pins s I) fun us s3 ⟨zs, H3, I3, r3, hz, q3⟩ => ⟨zs, H3, I3, r3, hz, k _ _ _ q3⟩⟩
theorem zip_nil_left {α β : Type} (l : List β) : ([] : List α).zip l = [] := rfl
/-- f(..) -/
theorem s_call (C : Cok G N A T cal k X sc) {f : Nat} {x : Str} {p pos : Pos} {es : Exs} {xs : List Expr} (h1 : nmG sc x = true) (h2 : G.gf.lookup x = some f) (al : AllSE A T cal X es xs) : SE A T X (.Call (.Name x p) xs [] pos) (evE T cal (.call f es)) := by
  intro Wx tk m H σ env h Q hr he o pins s I
  rw [evE] at o
  obtain ⟨g1, g2⟩ := nmG_gl C h1
  obtain ⟨hf, hm⟩ := C.fx.gf x f h2
  obtain ⟨ps, fd, hp, F⟩ := C.fx.fns f hf
  refine wpAny_Call_Name_kw (ld_glob I g1 hm ?_ g2)
  refine cw I F.kp al.good rfl (tAK_mono (s_ak Wx tk xs [] es (by simpa using al) m H σ env h (fun vs H2 => ∀ pins us s2, Inv X pins σ H2 s2 → Vals vs us → wpAny (model X.prog X.w) X.A (call (.ref (A.fa f)) us) (EP X pins σ Q) X.xe s2) hr he
    (Out.bind o fun ws h1 m1 H1 vs e1 s1 hr1 r1 o1 => fun pins us s2 I2 rv => run_cal C tk hf I2 rv hr1 r1 o1 (C.room.mono (Nat.le_succ _)) I2.env0)) fun vs zs H2 ⟨_, q⟩ us ws s2 I2 r rz hz => ?_)
  cases zs with
  | nil =>
    rw [List.append_nil] at q
    exact q pins us s2 I2 r
  | cons _ _ => cases hz
theorem opt_bind {α β γ : Type} {Rl : Mp → Hp → β → γ → Prop} {m : Mp} {H : Hp} {K : PySem.W.Frag} {h : Hs} {p : Option α} {f : α → Hs → R β} {Q : γ → Hp → Prop} {E : XK} (o : Out K A T Rl m H ((R.opt h p).bind f) Q E) : ∃ a, p = some a ∧ Out K A T Rl m H (f a h) Q E := by
  cases p with
  | none => exact (show False from o).elim
  | some a => exact ⟨a, rfl, o⟩
/-- f(.., k = ..) -/
theorem s_callK (C : Cok G N A T cal k X sc) {f : Nat} {pm : List Nat} {x : Str} {p pos : Pos} {es : Exs} {xs : List Expr} {kws : List Keyword} (h1 : nmG sc x = true) (h2 : G.gf.lookup x = some f) (h3 : permOk G f xs.length kws pm = true) (gx : xs.all good = true)
    (al : AllSE A T cal X es (xs ++ kws.map fun k => k.value)) : SE A T X (.Call (.Name x p) xs kws pos) (evE T cal (.callK f pm es)) := by
  intro Wx tk m H σ env h Q hr he o pins s I
  rw [evE] at o
  obtain ⟨g1, g2⟩ := nmG_gl C h1
  obtain ⟨hf, hm⟩ := C.fx.gf x f h2
  obtain ⟨ps, fd, hp, F⟩ := C.fx.fns f hf
  unfold permOk at h3
  rw [Bool.and_eq_true] at h3
  have hkp := List.contains_iff_mem.mp h3.2
  refine wpAny_Call_Name_kw (ld_glob I g1 hm ?_ g2)
  refine cw I F.kp gx h3.1 (tAK_mono (s_ak Wx tk xs kws es al m H σ env h (fun vs H2 => ∃ ws h1 m1, HRel X.K A m1 h1 H2 ∧ RelWs X.K A m1 H2 ws vs ∧ OutW X.K A T m1 H2 ((R.opt h1 (pm.mapM fun i => ws[i]?)).bind fun us h2 => cal f us h2) Q (fun c d H' => Wx c d σ H')) hr he
    (Out.bind o fun ws h1 m1 H1 vs e1 s1 hr1 r1 o1 => ⟨ws, h1, m1, hr1, r1, o1⟩)) fun vs zs H2 ⟨hl, ws, h1, m1, hr1, r1, o1⟩ us ws2 s2 I2 r rz hz => ?_)
  obtain ⟨ws', e2, o2⟩ := opt_bind o1
  exact run_calK C tk hf hkp I2 r rz (by rw [← r.length]; exact hl) (by rw [← rz.length, hz, kw_len h3.1]) hr1 r1 e2 o2 (C.room.mono (Nat.le_succ _)) I2.env0
/-- f(..), defaults left out -/
theorem s_callD (C : Cok G N A T cal k X sc) {f : Nat} {ds : List Int} {x : Str} {p pos : Pos} {es : Exs} {xs : List Expr} (h1 : nmG sc x = true) (h2 : G.gf.lookup x = some f) (h3 : G.dfp.contains (f, xs.length, ds) = true) (al : AllSE A T cal X es xs) : SE A T X (.Call (.Name x p) xs [] pos) (evE T cal (.callD f ds es)) := by
  intro Wx tk m H σ env h Q hr he o pins s I
  rw [evE] at o
  obtain ⟨g1, g2⟩ := nmG_gl C h1
  obtain ⟨hf, hm⟩ := C.fx.gf x f h2
  obtain ⟨ps, fd, hp, F⟩ := C.fx.fns f hf
  have hd := List.contains_iff_mem.mp h3
  refine wpAny_Call_Name_kw (ld_glob I g1 hm ?_ g2)
  refine cw I F.kp al.good rfl (tAK_mono (s_ak Wx tk xs [] es (by simpa using al) m H σ env h (fun vs H2 => ∀ pins us s2, Inv X pins σ H2 s2 → Vals vs us → us.length = xs.length → wpAny (model X.prog X.w) X.A (call (.ref (A.fa f)) us) (EP X pins σ Q) X.xe s2) hr he
    (Out.bind o fun ws h1 m1 H1 vs e1 s1 hr1 r1 o1 => fun pins us s2 I2 rv hl => run_calD C tk hf hd I2 rv hl hr1 r1 o1 (C.room.mono (Nat.le_succ _)) I2.env0)) fun vs zs H2 ⟨hl, q⟩ us ws s2 I2 r rz hz => ?_)
  cases zs with
  | nil =>
    rw [List.append_nil] at q
    exact q pins us s2 I2 r (by rw [← r.length]; exact hl)
  | cons _ _ => cases hz
end
end MP
end

section
set_option Elab.async false
set_option linter.all false
set_option maxRecDepth 100000
set_option maxHeartbeats 8000000
/-! MiniPy: fields, methods, new instances. -/
namespace MP
open PySem PySem.Spec PyProof.Rows L2

section
variable {G : Glo} {N : List Str} {A : Nm} {T : Tab} {cal : Nat → List W → Hs → R W} {k : Nat} {X : Cx} {sc : Scope}
theorem base_of {o : Expr} (h : notC0 o = true) (m : Str) (env : PySem.Env) (whole : Sem Value) : attributeBase o m env whole = whole := by
  unfold attributeBase
  cases o with
  | Call f as ks p =>
    cases f with
    | Name x q =>
      cases as with
      | nil => cases ks with
        | nil => cases h
        | cons _ _ => rfl
      | cons _ _ => rfl
    | _ => rfl
  | _ => rfl
theorem relFs_get {K : PySem.W.Frag} (finj : ∀ i j, A.fn i = A.fn j → i = j) {m : Mp} {H : Hp} {f : Nat} {w : W} : ∀ {fs : List (Nat × W)} {gs : List (Str × V)}, RelFs K A m H fs gs → fs.lookup f = some w → ∃ v, gs.lookup (A.fn f) = some v ∧ RelW K A m H w v
  | [], _, _, e => by simp at e
  | (g, u) :: r, _, ⟨v, gs, e, q, t⟩, h => by
    subst e
    by_cases hg : f = g
    · subst hg
      have hb : (f == f) = true := by simp
      rw [List.lookup_cons, hb] at h
      cases h
      have hb2 : (A.fn f == A.fn f) = true := by simp
      exact ⟨v, by rw [List.lookup_cons]; simp only [hb2], q⟩
    · have hb : (f == g) = false := by simpa using hg
      rw [List.lookup_cons, hb] at h
      have hb2 : (A.fn f == A.fn g) = false := by
        simp only [beq_eq_false_iff_ne, ne_eq]
        exact fun e => hg (finj _ _ e)
      obtain ⟨v2, e2, r2⟩ := relFs_get finj t h
      exact ⟨v2, by rw [List.lookup_cons]; simp only [hb2]; exact e2, r2⟩
theorem relFs_none {K : PySem.W.Frag} {m : Mp} {H : Hp} {x : Str} (hx : ∀ i, A.fn i ≠ x) : ∀ {fs : List (Nat × W)} {gs : List (Str × V)}, RelFs K A m H fs gs → gs.lookup x = none
  | [], _, e => by rw [(show _ = [] from e)]; rfl
  | (g, u) :: r, _, ⟨v, gs, e, q, t⟩ => by
    subst e
    have hb : (x == A.fn g) = false := by
      simp only [beq_eq_false_iff_ne, ne_eq]
      exact fun e => hx g e.symm
    rw [List.lookup_cons]
    simp only [hb]
    exact relFs_none hx t
theorem relFs_put {K : PySem.W.Frag} (finj : ∀ i j, A.fn i = A.fn j → i = j) {m : Mp} {H : Hp} {f : Nat} {w : W} {v : V} (rv : RelW K A m H w v) : ∀ {fs : List (Nat × W)} {gs : List (Str × V)}, RelFs K A m H fs gs → RelFs K A m H (fPut f w fs) (putF (A.fn f) v gs)
  | [], _, e => by rw [(show _ = [] from e)]; exact ⟨v, [], rfl, rv, rfl⟩
  | (g, u) :: r, _, ⟨v2, gs, e, q, t⟩ => by
    subst e
    unfold fPut putF
    by_cases hg : g = f
    · subst hg
      rw [if_pos rfl, if_pos rfl]
      exact ⟨v, gs, rfl, rv, t⟩
    · rw [if_neg hg, if_neg (fun e => hg (finj _ _ e))]
      exact ⟨v2, _, rfl, q, relFs_put finj rv t⟩
theorem relFs_len {K : PySem.W.Frag} {m : Mp} {H : Hp} : ∀ {fs : List (Nat × W)} {gs : List (Str × V)}, RelFs K A m H fs gs → gs.length = fs.length
  | [], _, e => by rw [(show _ = [] from e)]; rfl
  | (g, u) :: r, _, ⟨v2, gs, e, q, t⟩ => by subst e; rw [List.length_cons, List.length_cons, relFs_len t]
/-- o.f -/
theorem s_fld (C : Cok G N A T cal k X sc) {a : Ex} {f : Nat} {o : Expr} {x : Str} {pos : Pos} (h1 : G.fi.lookup x = some f) (h2 : notC0 o = true) (ha : SE A T X o (evE T cal a)) : SE A T X (.Attribute o x pos) (evE T cal (.fld a f)) := by
  intro Wx tk m H σ env h Q hr he out
  refine tE_of (pe_fld pe_w (base_of h2 _ _ _)) ?_
  rw [evE] at out
  refine ha Wx tk m H σ env h _ hr he (Out.bind out fun w1 h1' m1 H1 v e1 s1 hr1 r1 o1 => ?_)
  cases w1 with
  | ref r =>
    obtain ⟨p, e2, rfl⟩ := rel_ref r1
    dsimp only at o1
    split at o1
    · rename_i c fs ec
      obtain ⟨pl, o1⟩ := out_if o1
      obtain ⟨w, ew, o1⟩ := out_opt o1
      obtain ⟨dx, gs, e3, rf⟩ := hr1.cell _ _ _ ec e2
      obtain ⟨v2, e4, r4⟩ := relFs_get C.fx.finj rf ew
      have ef := C.fx.fi x f h1
      have cl := C.fx.cls c pl
      have q2 := cl.na x f h1
      rw [ef] at e4 q2
      exact ⟨p, A.ca c, dx, gs, v2, rfl, e3, cl.cl, q2, e4, out_ok o1 .rfl' hr1 r4⟩
    · exact (show False from o1).elim
  | _ => exact (show False from o1).elim
theorem mcall_eq {o : Expr} {x : Str} {apos pos : Pos} {xs : List Expr} {kws : List Keyword} (h2 : notC0 o = true) (h3 : (apos.endLine == pos.line) = true) (h4 : xs.length + kws.length < 20) (g : xs.all good = true) (ok : kwOk kws = true) (env : PySem.Env) :
    eval (.Call (.Attribute o x apos) xs kws pos) env = (do
      let ov ← eval o env
      standAt apos.atName
      let (f, first) ← holding [ov] (getMethod ov x (plainOf o env))
      callWith pos f first (backTo pos (starEach xs env)) (backToKw pos (keywordEach kws env))) := by
  have few : methodCallForm (xs.length + kws.length) (backTo pos (starEach xs env)) (backToKw pos (keywordEach kws env)) = true := by
    unfold methodCallForm
    obtain ⟨a1, a2⟩ := kw_all pos env ok
    have st := stars g pos env
    rw [List.any_eq_false] at st
    have s2 : ((backTo pos (starEach xs env)).all fun x => !x.1) = true := by
      rw [List.all_eq_true]
      intro y hy
      have := st y hy
      simpa using this
    rw [s2, a1]
    simp only [Bool.and_true, decide_eq_true_eq, Bool.true_and]
    split <;> omega
  show (do
    let ov ← attributeBase o x env (eval o env)
    standAt apos.atName
    methodCall o x apos pos env ov (xs.length + kws.length) (backTo pos (starEach xs env)) (backToKw pos (keywordEach kws env))) = _
  rw [base_of h2]
  congr 1
  funext ov
  congr 1
  funext _
  exact mcall_line few h3
/-- o.m(.., k = ..) of an instance -/
theorem meth_core (C : Cok G N A T cal k X sc) {a : Ex} {mi : Nat} {o : Expr} {x : Str} {apos pos : Pos} {es : Exs} {xs : List Expr} {kws : List Keyword} (h1 : G.mi.lookup x = some mi) (h2 : notC0 o = true) (h3 : (apos.endLine == pos.line) = true) (h4 : xs.length + kws.length < 20) (gx : xs.all good = true) (ok : kwOk kws = true)
    (ha : SE A T X o (evE T cal a)) (al : AllSE A T cal X es (xs ++ kws.map fun k => k.value)) {Wx : WX} (tk : Takes X Wx) {m : Mp} {H : Hp} {σ : L2.St} {env : Env} {h : Hs} {Q : VK} (hr : HRel X.K A m h H) (he : EnvR X.K A m H env σ)
    {fin : Nat → Nat → List W → Hs → R W}
    (out : OutW X.K A T m H ((evE T cal a env h).bind fun x h1 => match x with
      | .ref r => (match h1[r]? with
        | some (.ins c _) => (match T.meth c mi with
          | some f => (evEs T cal es env h1).bind fun ws h2 => fin f r ws h2
          | none => .stuck)
        | _ => .stuck)
      | _ => .stuck) Q (fun c d H' => Wx c d σ H'))
    (run : ∀ f c r p m1 H1 h1 ws vs zs us ys pins s, T.meth c mi = some f → Inv X pins σ H1 s → HRel X.K A m1 h1 H1 → m1[r]? = some p → RelWs X.K A m1 H1 ws (vs ++ zs) → vs.length = xs.length → zs.length = kws.length → Vals vs us → Vals zs ys → OutW X.K A T m1 H1 (fin f r ws h1) Q (fun c d H' => Wx c d σ H') →
      wpAny (model X.prog X.w) X.A (call (.ref (A.fa f)) (.ref p :: us) ((kws.filterMap (·.arg)).zip ys)) (EP X pins σ Q) X.xe s) : tE X (.Call (.Attribute o x apos) xs kws pos) σ H Q := by
  intro pins s I
  refine PySem.W.methodCall_KW (pl := plainOf o X.env) ?_ (mcall_eq h2 h3 h4 gx ok X.env)
  have key := ha Wx tk m H σ env h (fun v H1 => ∀ pins s u, Inv X pins σ H1 s → RelV v u → wpAny (model X.prog X.w) X.A (getMethod u x (plainOf o X.env)) (fun fx s₂ => wpAny (model X.prog X.w) X.A (callWith pos fx.1 fx.2 (backTo pos (starEach xs X.env)) (backToKw pos (keywordEach kws X.env))) (EP X pins σ Q) X.xe s₂) X.xe s) hr he
    (Out.bind out fun w1 h1' m1 H1 v e1 s1 hr1 r1 o1 => fun pins s u I ru => ?_)
  · exact thn (key pins s I) fun u s1 ⟨v, H1, I1, rv, q⟩ => q pins s1 u I1 rv
  · cases w1 with
    | ref r =>
      obtain ⟨p, e2, rfl⟩ := rel_ref r1
      dsimp only at o1
      split at o1
      · rename_i c fs ec
        split at o1
        · rename_i f em
          obtain ⟨pl, hfs, hf, hmm⟩ := C.fx.meth c mi f em
          obtain ⟨Me, hne⟩ := hmm x h1
          obtain ⟨dx, gs, e3, rf⟩ := hr1.cell _ _ _ ec e2
          cases ru
          refine getmeth_ok I e3 (C.fx.cls c pl).cl Me (relFs_none hne rf) ?_
          refine cw (first := [Value.ref p]) I Me.kp gx ok (tAK_mono (s_ak Wx tk xs kws es al m1 H1 σ env h1' (fun vs H2 => ∃ ws h2 m2, HRel X.K A m2 h2 H2 ∧ m2[r]? = some p ∧ RelWs X.K A m2 H2 ws vs ∧ OutW X.K A T m2 H2 (fin f r ws h2) Q (fun c d H' => Wx c d σ H')) hr1 (he.mono s1)
            (Out.bind o1 fun ws h2 m2 H2 vs e4 s2 hr2 r2 o2 => ⟨ws, h2, m2, hr2, s2.pre _ _ e2, r2, o2⟩)) fun vs zs H2 ⟨hl, ws, h2, m2, hr2, e5, r2, o2⟩ us ys s2 I2 rv rz hz => ?_)
          exact run f c r p m2 H2 h2 ws vs zs us ys pins s2 em I2 hr2 e5 r2 hl hz rv rz o2
        · exact (show False from o1).elim
      · exact (show False from o1).elim
    | _ => exact (show False from o1).elim
theorem s_meth (C : Cok G N A T cal k X sc) {a : Ex} {mi : Nat} {o : Expr} {x : Str} {apos pos : Pos} {es : Exs} {xs : List Expr} (h1 : G.mi.lookup x = some mi) (h2 : notC0 o = true) (h3 : (apos.endLine == pos.line) = true) (h4 : xs.length < 20) (gx : xs.all good = true)
    (ha : SE A T X o (evE T cal a)) (al : AllSE A T cal X es xs) : SE A T X (.Call (.Attribute o x apos) xs [] pos) (evE T cal (.meth a mi es)) := by
  intro Wx tk m H σ env h Q hr he out
  rw [evE] at out
  refine meth_core C (kws := []) h1 h2 h3 h4 gx rfl ha (by simpa using al) tk hr he (fin := fun f r ws h2 => cal f (.ref r :: ws) h2) out fun f c r p m1 H1 h1 ws vs zs us ys pins s em I hr1 e2 r1 hl hz rv rz o1 => ?_
  cases zs with
  | nil =>
    rw [List.append_nil] at r1
    obtain ⟨pl, hfs, hf, hmm⟩ := C.fx.meth c mi f em
    exact run_cal C tk hf (us := .ref p :: us) (vs := .ref p :: vs) (ws := .ref r :: ws) I (.cons rfl rv) hr1 (.cons ⟨p, e2, rfl⟩ r1) o1 (C.room.mono (Nat.le_succ _)) I.env0
  | cons _ _ => cases hz
theorem mapM_shift {ws : List W} {w0 : W} : ∀ {p : List Nat} {us : List W}, p.mapM (fun i => ws[i]?) = some us → (0 :: p.map (· + 1)).mapM (fun i => (w0 :: ws)[i]?) = some (w0 :: us) := by
  intro p
  have key : ∀ {p : List Nat} {us : List W}, p.mapM (fun i => ws[i]?) = some us → (p.map (· + 1)).mapM (fun i => (w0 :: ws)[i]?) = some us := by
    intro p
    induction p with
    | nil => intro us h; simpa using h
    | cons i p ih =>
      intro us h
      simp only [List.map_cons, List.mapM_cons, Option.bind_eq_bind, Option.bind_eq_some_iff] at h ⊢
      obtain ⟨a, h1, b, h2, h3⟩ := h
      exact ⟨a, by simpa using h1, b, ih h2, h3⟩
  intro us h
  simp only [List.mapM_cons, Option.bind_eq_bind, Option.bind_eq_some_iff]
  exact ⟨w0, rfl, us, key h, rfl⟩
theorem s_methK (C : Cok G N A T cal k X sc) {a : Ex} {mi : Nat} {pm : List Nat} {o : Expr} {x : Str} {apos pos : Pos} {es : Exs} {xs : List Expr} {kws : List Keyword} (h1 : G.mi.lookup x = some mi) (h2 : notC0 o = true) (h3 : (apos.endLine == pos.line) = true) (h4 : xs.length + kws.length < 20)
    (hp : (match G.mfs.lookup mi with | some fs => kwOk kws && fs.all fun f => permOk G f (xs.length + 1) kws (0 :: pm.map (· + 1)) | none => false) = true) (gx : xs.all good = true)
    (ha : SE A T X o (evE T cal a)) (al : AllSE A T cal X es (xs ++ kws.map fun k => k.value)) : SE A T X (.Call (.Attribute o x apos) xs kws pos) (evE T cal (.methK a mi pm es)) := by
  intro Wx tk m H σ env h Q hr he out
  rw [evE] at out
  cases hfs : G.mfs.lookup mi with
  | none => rw [hfs] at hp; cases hp
  | some fs =>
    rw [hfs] at hp
    rw [Bool.and_eq_true] at hp
    obtain ⟨hk, hp⟩ := hp
    · refine meth_core C h1 h2 h3 h4 gx hk ha al tk hr he (fin := fun f r ws h2 => (R.opt h2 (pm.mapM fun i => ws[i]?)).bind fun us h3 => cal f (.ref r :: us) h3) out fun f c r p m1 H1 h1 ws vs zs us ys pins s em I hr1 e2 r1 hl hz rv rz o1 => ?_
      obtain ⟨pl, ⟨fs2, hfs2, hin⟩, hf, hmm⟩ := C.fx.meth c mi f em
      rw [hfs] at hfs2; cases hfs2
      have hpm := List.all_eq_true.mp hp f hin
      unfold permOk at hpm
      rw [Bool.and_eq_true] at hpm
      obtain ⟨ws', e3, o2⟩ := opt_bind o1
      exact run_calK C tk hf (List.contains_iff_mem.mp hpm.2) (us := .ref p :: us) (vs := .ref p :: vs) (ws := .ref r :: ws) I (.cons rfl rv) rz (by rw [List.length_cons, ← rv.length, hl]) (by rw [← rz.length, hz, kw_len hpm.1]) hr1 (.cons ⟨p, e2, rfl⟩ r1) (mapM_shift e3) o2 (C.room.mono (Nat.le_succ _)) I.env0
end
end MP
end

section
set_option Elab.async false
set_option linter.all false
set_option maxRecDepth 100000
set_option maxHeartbeats 8000000
/-! MiniPy: new instances; items, slices, membership, built-ins by values. -/
namespace MP
open PySem PySem.Spec PyProof.Rows L2

section
variable {G : Glo} {N : List Str} {A : Nm} {T : Tab} {cal : Nat → List W → Hs → R W} {k : Nat} {X : Cx} {sc : Scope}
/-- C(..) by values -/
theorem run_new (C : Cok G N A T cal k X sc) {Wx : WX} (tk : Takes X Wx) {c f : Nat} (pl : T.plain c = true) (hi : T.init c = some f) {pins : List (Addr × Obj)} {σ : L2.St} {H : Hp} {s : Shared} {us xs : List Value} {kw : List (Str × Value)} {vs : List V} {ws : List W} {m : Mp} {h : Hs} {Q : VK}
    (I : Inv X pins σ H s) (rv : Vals vs xs) (hr : HRel X.K A m h H) (r1 : RelWs X.K A m H ws vs)
    (o : OutW X.K A T m H ((cal f (.ref h.length :: ws) (h ++ [.ins c []])).bind fun v h1 => match v with | .non => .ok (.ref h.length) h1 | _ => .stuck) Q (fun c d H' => Wx c d σ H'))
    (bd : ∀ ps fd, G.par[f]? = some ps → FOk X.prog X.w X.K X.mg X.base G A T cal k f ps fd → ws.length + 1 = ps.length → ∀ self s, X.K.In s.heap → BindsTo s fd ⟨self :: us, kw⟩ (ps.zip (self :: xs))) :
    wpAny (model X.prog X.w) X.A (call (.ref (A.ca c)) us kw) (EP X pins σ Q) X.xe s := by
  obtain ⟨hcf, hf, M⟩ := C.fx.init c f pl hi
  obtain ⟨ps, fd, hp, F⟩ := C.fx.fns f hf
  have n1 : H s.heap.objs.size = none := I.hok.fresh (Nat.le_refl _)
  have n2 : H (s.heap.objs.size + 1) = none := I.hok.fresh (Nat.le_succ _)
  have ne : s.heap.objs.size + 1 ≠ s.heap.objs.size := Nat.succ_ne_self _
  have n3 : upd H s.heap.objs.size (HO.own (s.heap.objs.size + 1)) (s.heap.objs.size + 1) = none := by rw [upd_ne ne]; exact n2
  have I2 := Inv.made (C := A.ca c) I
  have st : Stp m H (m ++ [s.heap.objs.size + 1]) (upd (upd H s.heap.objs.size (.own (s.heap.objs.size + 1))) (s.heap.objs.size + 1) (.ins (A.ca c) s.heap.objs.size [])) := (Stp.laid n1).trans (Stp.grown n3)
  have hr2 : HRel X.K A (m ++ [s.heap.objs.size + 1]) (h ++ [.ins c []]) (upd (upd H s.heap.objs.size (.own (s.heap.objs.size + 1))) (s.heap.objs.size + 1) (.ins (A.ca c) s.heap.objs.size [])) := (hr.laid n1).grown n3 ⟨_, [], upd_same, rfl⟩
  have at_ : (m ++ [s.heap.objs.size + 1])[h.length]? = some (s.heap.objs.size + 1) := grown_at hr
  have o2 : OutW X.K A T (m ++ [s.heap.objs.size + 1]) (upd (upd H s.heap.objs.size (.own (s.heap.objs.size + 1))) (s.heap.objs.size + 1) (.ins (A.ca c) s.heap.objs.size [])) (cal f (.ref h.length :: ws) (h ++ [.ins c []])) (fun z H3 => z = .non ∧ Q (.ref (s.heap.objs.size + 1)) H3) (fun c d H' => Wx c d σ H') :=
    Out.bind (Out.step o st) fun w h3 m3 H3 z e3 s3 hr3 r3 o3 => by
      cases w with
      | non => exact ⟨r3, out_ok o3 .rfl' hr3 ⟨_, s3.pre _ _ at_, rfl⟩⟩
      | _ => exact (show False from o3).elim
  have hl : ws.length + 1 = ps.length := by
    by_cases e : (W.ref h.length :: ws).length = ps.length
    · simpa using e
    · rw [C.fx.len f ps _ _ hp e] at o2; exact (show False from o2).elim
  refine wpAny_call (make_map (f := A.fa f) I.kIn M.makes M.init (beq_iff_eq.mp M.fn) (codeAny_mono (F.ok.run _ X.stack _ _ ⟨Value.ref (s.heap.objs.size + 1) :: us, kw⟩ (Value.ref (s.heap.objs.size + 1) :: xs) (V.ref (s.heap.objs.size + 1) :: vs) _ (fun c d H' => Wx c d σ H') (C.room.make (A.ca c) us kw)
    (I2.env0.make (A.ca c) us kw) (bd ps fd hp F hl _ _ I2.kIn) (.cons rfl rv) ⟨by rw [List.length_cons, ← r1.length]; exact hl, _, _, W.ref h.length :: ws, hr2, .cons (w := W.ref h.length) ⟨_, at_, rfl⟩ (r1.mono st), o2⟩) fun r s' hq' => ?_))
  cases r with
  | error e => exact passAt tk σ pins _ _ e s' I2 hq'
  | ok fl =>
    cases fl with
    | ret u =>
      obtain ⟨v, H', I3, rv, ev, q3⟩ := I2.after hq'
      subst ev
      exact ⟨rv, ⟨V.ref (s.heap.objs.size + 1), H', I3, rfl, q3⟩⟩
    | next => exact False.elim hq'
    | brk => exact False.elim hq'
    | cont => exact False.elim hq'
theorem mkN_inv {m : Mp} {H : Hp} {K : PySem.W.Frag} {c : Nat} {ws : List W} {h : Hs} {Q : VK} {E : XK} (o : OutW K A T m H (mkN T cal c ws h) Q E) : ∃ f, T.plain c = true ∧ T.init c = some f ∧
    OutW K A T m H ((cal f (.ref h.length :: ws) (h ++ [.ins c []])).bind fun v h1 => match v with | .non => .ok (.ref h.length) h1 | _ => .stuck) Q E := by
  unfold mkN at o
  split at o
  · exact (show False from o).elim
  · split at o
    · rename_i f e
      by_cases pl : T.plain c = true
      · rw [if_pos pl] at e; exact ⟨f, pl, e, o⟩
      · rw [if_neg pl] at e; cases e
    · exact (show False from o).elim
theorem s_new (C : Cok G N A T cal k X sc) {c : Nat} {x : Str} {p pos : Pos} {es : Exs} {xs : List Expr} (h1 : nmG sc x = true) (h2 : G.gc.lookup x = some c) (h3 : (G.cfs.lookup c).isSome = true) (al : AllSE A T cal X es xs) : SE A T X (.Call (.Name x p) xs [] pos) (evE T cal (.new c es)) := by
  intro Wx tk m H σ env h Q hr he o pins s I
  rw [evE] at o
  obtain ⟨g1, g2⟩ := nmG_gl C h1
  have hm := C.fx.gc x c h2
  obtain ⟨f0, hf0⟩ := Option.isSome_iff_exists.mp h3
  refine wpAny_Call_Name_kw (ld_glob I g1 hm ?_ g2)
  refine cw I (C.fx.kc c f0 hf0) al.good rfl (tAK_mono (s_ak Wx tk xs [] es (by simpa using al) m H σ env h (fun vs H2 => ∀ pins us s2, Inv X pins σ H2 s2 → Vals vs us → wpAny (model X.prog X.w) X.A (call (.ref (A.ca c)) us) (EP X pins σ Q) X.xe s2) hr he
      (Out.bind o fun ws h1 m1 H1 vs e1 s1 hr1 r1 o1 => fun pins us s2 I2 rv => ?_)) fun vs zs H2 ⟨_, q⟩ us ws s2 I2 r rz hz => ?_)
  · obtain ⟨f, pl, hi, o2⟩ := mkN_inv o1
    exact run_new C tk pl hi I2 rv hr1 r1 o2 fun ps fd hp F hl self s ki => F.bp _ (by rw [List.length_cons, ← rv.length, ← r1.length]; exact hl) s ki
  · cases zs with
    | nil => rw [List.append_nil] at q; exact q pins us s2 I2 r
    | cons _ _ => cases hz
theorem mapM_perm {ws : List W} {vs : List V} {us : List Value} {m : Mp} {H : Hp} {K : PySem.W.Frag} (rw' : RelWs K A m H ws vs) (rr : Vals vs us) : ∀ (p : List Nat) (ws' : List W), p.mapM (fun i => ws[i]?) = some ws' → ∃ vs' xs, p.mapM (fun i => us[i]?) = some xs ∧ RelWs K A m H ws' vs' ∧ Vals vs' xs
  | [], ws', h => by simp at h; subst h; exact ⟨[], [], rfl, .nil, .nil⟩
  | i :: p, ws', h => by
    simp only [List.mapM_cons, Option.bind_eq_bind, Option.bind_eq_some_iff] at h
    obtain ⟨w1, a1, w2, a2, a3⟩ := h
    cases a3
    obtain ⟨v, c1, c2⟩ := rw'.get a1
    obtain ⟨u, d1, d2⟩ := rr.get c1
    obtain ⟨vs', xs, e1, e2, e3⟩ := mapM_perm rw' rr p w2 a2
    refine ⟨v :: vs', u :: xs, ?_, .cons c2 e2, .cons d2 e3⟩
    simp only [List.mapM_cons, Option.bind_eq_bind, Option.bind_eq_some_iff]
    exact ⟨u, d1, xs, e1, rfl⟩
theorem mapM_shiftV {us : List Value} {u0 : Value} {p : List Nat} {xs : List Value} (h : p.mapM (fun i => us[i]?) = some xs) : (0 :: p.map (· + 1)).mapM (fun i => (u0 :: us)[i]?) = some (u0 :: xs) := by
  have key : ∀ {p : List Nat} {xs : List Value}, p.mapM (fun i => us[i]?) = some xs → (p.map (· + 1)).mapM (fun i => (u0 :: us)[i]?) = some xs := by
    intro p
    induction p with
    | nil => intro us h; simpa using h
    | cons i p ih =>
      intro us h
      simp only [List.map_cons, List.mapM_cons, Option.bind_eq_bind, Option.bind_eq_some_iff] at h ⊢
      obtain ⟨a, h1, b, h2, h3⟩ := h
      exact ⟨a, by simpa using h1, b, ih h2, h3⟩
  simp only [List.mapM_cons, Option.bind_eq_bind, Option.bind_eq_some_iff]
  exact ⟨u0, rfl, xs, key h, rfl⟩
theorem s_newK (C : Cok G N A T cal k X sc) {c : Nat} {pm : List Nat} {x : Str} {p pos : Pos} {es : Exs} {xs : List Expr} {kws : List Keyword} (h1 : nmG sc x = true) (h2 : G.gc.lookup x = some c)
    (h3 : (match G.cfs.lookup c with | some f => permOk G f (xs.length + 1) kws (0 :: pm.map (· + 1)) | none => false) = true) (gx : xs.all good = true) (al : AllSE A T cal X es (xs ++ kws.map fun k => k.value)) : SE A T X (.Call (.Name x p) xs kws pos) (evE T cal (.newK c pm es)) := by
  intro Wx tk m H σ env h Q hr he o pins s I
  rw [evE] at o
  obtain ⟨g1, g2⟩ := nmG_gl C h1
  have hm := C.fx.gc x c h2
  cases hcf : G.cfs.lookup c with
  | none => rw [hcf] at h3; cases h3
  | some f0 =>
    rw [hcf] at h3
    have h3' : permOk G f0 (xs.length + 1) kws (0 :: pm.map (· + 1)) = true := h3
    unfold permOk at h3'
    rw [Bool.and_eq_true] at h3'
    refine wpAny_Call_Name_kw (ld_glob I g1 hm ?_ g2)
    refine cw I (C.fx.kc c f0 hcf) gx h3'.1 (tAK_mono (s_ak Wx tk xs kws es al m H σ env h (fun vs H2 => ∃ ws h1 m1, HRel X.K A m1 h1 H2 ∧ RelWs X.K A m1 H2 ws vs ∧ OutW X.K A T m1 H2 ((R.opt h1 (pm.mapM fun i => ws[i]?)).bind fun us h2 => mkN T cal c us h2) Q (fun c d H' => Wx c d σ H')) hr he
      (Out.bind o fun ws h1 m1 H1 vs e1 s1 hr1 r1 o1 => ⟨ws, h1, m1, hr1, r1, o1⟩)) fun vs zs H2 ⟨hl, ws, h1, m1, hr1, r1, o1⟩ us ys s2 I2 r rz hz => ?_)
    obtain ⟨ws', e2, o2⟩ := opt_bind o1
    obtain ⟨f, pl, hi, o3⟩ := mkN_inv o2
    obtain ⟨hcf2, hf, M⟩ := C.fx.init c f pl hi
    rw [hcf] at hcf2; cases hcf2
    obtain ⟨vs', xs', e3, r3, r4⟩ := mapM_perm r1 (r.append rz) pm ws' e2
    refine run_new C tk pl hi I2 r4 hr1 r3 o3 fun ps fd hp F hl2 self s ki => ?_
    obtain ⟨xs2, e4, e5, e6⟩ := F.bk _ _ _ (List.contains_iff_mem.mp h3'.2) (self :: us) ys (by rw [List.length_cons, ← r.length, hl]) (by rw [← rz.length, hz, kw_len h3'.1])
    have e7 := mapM_shiftV (u0 := self) e3
    rw [← List.cons_append, e4] at e7
    cases e7
    exact e6 s ki
end
end MP
end

section
set_option Elab.async false
set_option linter.all false
set_option maxRecDepth 100000
set_option maxHeartbeats 8000000
/-! MiniPy: items, slices, built-ins by values, isinstance, membership. -/
namespace MP
open PySem PySem.Spec PyProof.Rows L2

section
variable {G : Glo} {N : List Str} {A : Nm} {T : Tab} {cal : Nat → List W → Hs → R W} {k : Nat} {X : Cx} {sc : Scope}
section
variable {K : PySem.W.Frag} {m : Mp} {H : Hp}
theorem rel_atI {ws : List W} {vs : List V} {i : Int} {w : W} (r : RelWs K A m H ws vs) (h : atI ws i = some w) : ∃ v, atI vs i = some v ∧ RelW K A m H w v := by
  unfold atI at h ⊢
  rw [r.length] at h
  obtain ⟨j, e1, e2⟩ := Option.bind_eq_some_iff.mp h
  obtain ⟨v, e3, r3⟩ := r.get e2
  exact ⟨v, by rw [e1]; exact e3, r3⟩
theorem key_rel {w : W} {v : V} (hk : w.key = true) (r : RelW K A m H w v) : ∃ k, w = keyW k ∧ v = L2.kV k := by
  cases w with
  | int i => exact ⟨.inl i, rfl, r⟩
  | str x => exact ⟨.inr x, rfl, r⟩
  | _ => cases hk
theorem keyW_inj {a b : Key} (h : keyW a = keyW b) : a = b := by
  cases a with
  | inl i => cases b with
    | inl j => cases h; rfl
    | inr y => cases h
  | inr x => cases b with
    | inl j => cases h
    | inr y => cases h; rfl
theorem dGet_val {k : Key} : ∀ {kvs : List (W × W)} {ks : List (Key × V)}, RelKV K A m H kvs ks → (∀ w, dGet (keyW k) kvs = some w → ∃ v, valV ks k = some v ∧ RelW K A m H w v) ∧ (dGet (keyW k) kvs = none → valV ks k = none)
  | [], _, e => by rw [(show _ = [] from e)]; exact ⟨fun w h => by simp [dGet] at h, fun _ => rfl⟩
  | (a, u) :: r, _, ⟨k', v, ks, e, ek, rv, t⟩ => by
    subst e
    have ek' : a = keyW k' := ek
    subst ek'
    unfold dGet
    by_cases hk : k' = k
    · subst hk
      rw [if_pos rfl, valV_pos rfl]
      exact ⟨fun w h => by cases h; exact ⟨v, rfl, rv⟩, fun h => by cases h⟩
    · rw [if_neg (fun e => hk (keyW_inj e)), valV_neg hk]
      exact dGet_val t
theorem relKV_len : ∀ {kvs : List (W × W)} {ks : List (Key × V)}, RelKV K A m H kvs ks → ks.length = kvs.length
  | [], _, e => by rw [(show _ = [] from e)]; rfl
  | _ :: _, _, ⟨k', v, ks, e, ek, rv, t⟩ => by subst e; rw [List.length_cons, List.length_cons, relKV_len t]
end
theorem v_idx (C : Cok G N A T cal k X sc) {m : Mp} {H : Hp} {h : Hs} {E : XK} {Q : VK} {a b : W} {x y : V} (hr : HRel X.K A m h H) (ra : RelW X.K A m H a x) (rb : RelW X.K A m H b y) (o : OutW X.K A T m H (idx2 h a b) Q E) :
    ∀ value slice pins s σ v u, Inv X pins σ H s → RelV x v → RelV y u → subscripted slice false v u = operate [v, u] (getItem v u) → wpAny (model X.prog X.w) X.A (subscriptTail value slice v u) (EP X pins σ Q) X.xe s := by
  intro value slice pins s σ v u I rx ry hs
  have list : ∀ {ws : List W} {p : Addr} {vs : List V} {i : Int}, b = .int i → x = .ref p → SqL X.K H p vs → RelWs X.K A m H ws vs → OutW X.K A T m H (R.opt h (L2.atI ws i)) Q E → wpAny (model X.prog X.w) X.A (subscriptTail value slice v u) (EP X pins σ Q) X.xe s := by
    intro ws p vs i eb e q r o
    rw [eb] at rb
    obtain ⟨w, ew, o⟩ := out_opt o
    obtain ⟨v1, e1, r1⟩ := rel_atI r ew
    exact ix_list value slice pins s σ H x y v u Q I rx ry ⟨p, vs, i, v1, e, rb, q, e1, out_ok o .rfl' hr r1⟩ hs
  cases a with
  | tup ws =>
    obtain ⟨p, vs, rfl, q, r⟩ := rel_tup ra
    cases b with
    | int i =>
      have o : OutW X.K A T m H (R.opt h (L2.atI ws i)) Q E := o
      obtain ⟨w, ew, o⟩ := out_opt o
      obtain ⟨v1, e1, r1⟩ := rel_atI r ew
      exact ix_tup value slice pins s σ H _ y v u Q I rx ry ⟨p, vs, i, v1, rfl, rb, q, e1, out_ok o .rfl' hr r1⟩ hs
    | _ => exact (show False from o).elim
  | str z =>
    cases b with
    | int i =>
      obtain ⟨c, o⟩ := out_if o
      obtain ⟨w, ew, o⟩ := out_opt o
      obtain ⟨cc, e1, e2⟩ := Option.map_eq_some_iff.mp ew
      subst e2
      exact ix_str value slice pins s σ H x y v u Q I rx ry ⟨z, i, cc, ra, rb, by rw [sz]; exact c, e1, out_ok o .rfl' hr rfl⟩ hs
    | _ => exact (show False from o).elim
  | ref n =>
    obtain ⟨p, e, rfl⟩ := rel_ref ra
    simp only [idx2] at o
    split at o
    · rename_i xs ec
      obtain ⟨vs, q, r⟩ := hr.cell _ _ _ ec e
      cases b with
      | int i => exact list rfl rfl (SqL.of q) r o
      | _ => exact (show False from o).elim
    · rename_i xs ec
      obtain ⟨ob, vs, q, r⟩ := hr.cell _ _ _ ec e
      cases b with
      | int i => exact list rfl rfl (.inl (.inr ⟨ob, q⟩)) r o
      | _ => exact (show False from o).elim
    · rename_i kvs ec
      obtain ⟨ks, q, r⟩ := hr.cell _ _ _ ec e
      obtain ⟨hk, o⟩ := out_if o
      obtain ⟨w, ew, o⟩ := out_opt o
      obtain ⟨kk, rfl, rfl⟩ := key_rel hk rb
      obtain ⟨v1, e1, r1⟩ := (dGet_val r).1 w ew
      rw [ew] at o
      have g : DGet H p (L2.kV kk) (some v1) := .inl ⟨ks, kk, .inl q, rfl, e1.symm⟩
      cases rx
      exact tail_any (dict_typeIs I g) PySem.F.slot_dict_getitem.lookup (d_getItem (by have := C.room.units; omega) I g ry fun w' s' I' rw' => ⟨v1, H, I', rw', out_ok o .rfl' hr r1⟩) hs
    · rename_i kvs ec
      obtain ⟨ob, ks, q, r⟩ := hr.cell _ _ _ ec e
      obtain ⟨hk, o⟩ := out_if o
      obtain ⟨w, ew, o⟩ := out_opt o
      obtain ⟨kk, rfl, rfl⟩ := key_rel hk rb
      obtain ⟨v1, e1, r1⟩ := (dGet_val r).1 w ew
      rw [ew] at o
      have g : DGet H p (L2.kV kk) (some v1) := .inl ⟨ks, kk, .inr ⟨ob, q⟩, rfl, e1.symm⟩
      cases rx
      exact tail_any (dict_typeIs I g) PySem.F.slot_dict_getitem.lookup (d_getItem (by have := C.room.units; omega) I g ry fun w' s' I' rw' => ⟨v1, H, I', rw', out_ok o .rfl' hr r1⟩) hs
    · exact (show False from o).elim
  | _ => cases b <;> exact (show False from o).elim
theorem plainIx_good {b : Expr} (h : good b = true) : PlainIx b := by
  intro o i
  cases b <;> first | rfl | cases h
theorem s_idx (C : Cok G N A T cal k X sc) {a i : Ex} {v s : Expr} {pos : Pos} (g : good s = true) (ha : SE A T X v (evE T cal a)) (hb : SE A T X s (evE T cal i)) : SE A T X (.Subscript v s pos) (evE T cal (.idx a i)) := by
  intro Wx tk m H σ env h Q hr he out
  refine tE_of (pe_ix (r := fun x y H Q => ∀ value slice pins s σ v u, Inv X pins σ H s → RelV x v → RelV y u → subscripted slice false v u = operate [v, u] (getItem v u) → wpAny (model X.prog X.w) X.A (subscriptTail value slice v u) (EP X pins σ Q) X.xe s)
    (fun value slice pins s σ H x y v u Q I rx ry h hs => h value slice pins s σ v u I rx ry hs) pe_w pe_w (plainIx_good g)) ?_
  rw [evE] at out
  refine ha Wx tk m H σ env h _ hr he (Out.bind out fun w1 h1 m1 H1 x e1 s1 hr1 r1 o1 => ?_)
  refine hb Wx tk m1 H1 σ env h1 _ hr1 (he.mono s1) (Out.bind o1 fun w2 h2 m2 H2 y e2 s2 hr2 r2 o2 => ?_)
  exact v_idx C hr2 (r1.mono s2) r2 o2
/-! ### slices -/
def tPO (X : Cx) (e : Option Expr) : TO := fun σ H Q => ∀ pins s, Inv X pins σ H s → wpAny (model X.prog X.w) X.A (evalPart e X.env) (fun u s' => ∃ o H', Inv X pins σ H' s' ∧ IsPart u o ∧ Q o H') X.xe s
theorem po_w {e : Option Expr} : PO X e (tPO X e) := ⟨fun pins s σ H Q I h => h pins s I⟩
def SO (A : Nm) (T : Tab) (X : Cx) (e : Option Expr) (ev : Env → Hs → R (Option Int)) : Prop := ∀ (Wx : WX), Takes X Wx → ∀ m H σ env h Q, HRel X.K A m h H → EnvR X.K A m H env σ →
  Out X.K A T (fun _ _ a b => a = b) m H (ev env h) Q (fun c d H' => Wx c d σ H') → tPO X e σ H Q
theorem s_onone : SO A T X none (evO T cal .none) := fun Wx tk m H σ env h Q hr he o pins s I => po_none.run pins s σ H Q I (out_ok o .rfl' hr rfl)
theorem s_osome {e : Ex} {x : Expr} (ha : SE A T X x (evE T cal e)) : SO A T X (some x) (evO T cal (.some e)) := fun Wx tk m H σ env h Q hr he o pins s I => (po_some pe_w).run pins s σ H Q I (by
  rw [evO] at o
  refine ha Wx tk m H σ env h _ hr he (Out.bind o fun w1 h1 m1 H1 v e1 s1 hr1 r1 o1 => ?_)
  cases w1 with
  | int i => exact ⟨i, r1, out_ok o1 .rfl' hr1 rfl⟩
  | _ => exact (show False from o1).elim)
theorem slice_rel {K : PySem.W.Frag} {m : Mp} {H : Hp} {ws : List W} {vs : List V} (lo hi : Option Int) (r : RelWs K A m H ws vs) : RelWs K A m H (sliceL lo hi ws) (cutV vs lo hi) := by
  unfold sliceL cutV
  rw [r.length]
  exact (r.drop _).take _
theorem s_slc (C : Cok G N A T cal k X sc) {a : Ex} {lo hi : Cnd} {v : Expr} {l u : Option Expr} {p pos : Pos} (ha : SE A T X v (evE T cal a)) (hl : SO A T X l (evO T cal lo)) (hh : SO A T X u (evO T cal hi)) : SE A T X (.Subscript v (.Slice l u none p) pos) (evE T cal (.slc a lo hi)) := by
  intro Wx tk m H σ env h Q hr he out
  refine tE_of (pe_slice ((sl_tupA.or sl_str).or sl_list) pe_w po_w po_w) ?_
  rw [evE] at out
  refine ha Wx tk m H σ env h _ hr he (Out.bind out fun w1 h1 m1 H1 x e1 s1 hr1 r1 o1 => ?_)
  refine hl Wx tk m1 H1 σ env h1 _ hr1 (he.mono s1) (Out.bind o1 fun y h2 m2 H2 y' e2 s2 hr2 r2 o2 => ?_)
  refine hh Wx tk m2 H2 σ env h2 _ hr2 ((he.mono s1).mono s2) (Out.bind o2 fun z h3 m3 H3 z' e3 s3 hr3 r3 o3 => ?_)
  subst r2; subst r3
  have r1' := (r1.mono s2).mono s3
  cases w1 with
  | tup ws =>
    obtain ⟨q, vs, rfl, hq, r⟩ := rel_tup r1'
    refine .inl (.inl ⟨q, vs, rfl, hq, fun e => ?_, fun _ p n => out_tup hr3 (slice_rel y z r) o3 p n⟩)
    refine o3 m3 H3 _ .rfl' hr3 ⟨q, vs, rfl, hq, ?_⟩
    have := slice_rel y z r
    have ec : cutV vs y z = vs := by
      unfold cutV
      rw [e.1, e.2, List.drop_zero, Nat.sub_zero, List.take_length]
    rw [ec] at this
    exact this
  | str t =>
    obtain ⟨c, o3⟩ := out_if o3
    exact .inl (.inr ⟨t, r1', by rw [sz]; exact c, out_ok o3 .rfl' hr3 rfl⟩)
  | ref n =>
    obtain ⟨q, e, rfl⟩ := rel_ref r1'
    simp only [slc2] at o3
    split at o3
    · rename_i xs ec
      obtain ⟨vs, hq, r⟩ := hr3.cell _ _ _ ec e
      exact .inr ⟨q, vs, rfl, SqL.of hq, fun p n => out_lst hr3 (slice_rel y z r) o3 p n⟩
    · rename_i xs ec
      obtain ⟨ob, vs, hq, r⟩ := hr3.cell _ _ _ ec e
      exact .inr ⟨q, vs, rfl, .inl (.inr ⟨ob, hq⟩), fun p n => out_lst hr3 (slice_rel y z r) o3 p n⟩
    · exact (show False from o3).elim
  | _ => exact (show False from o3).elim
/-! ### built-ins by values -/
def tC (X : Cx) (f : Value) : List V → Hp → VK → Prop := fun xs H Q => ∀ pins s σ us, Inv X pins σ H s → Vals xs us → wpAny (model X.prog X.w) X.A (call f us) (EP X pins σ Q) X.xe s
theorem cr_w {f : Value} : CallR X f (tC X f) := fun pins s σ H xs us Q I r h => h pins s σ us I r
theorem tC_of {f : Value} {r : List V → Hp → VK → Prop} {vs : List V} {H : Hp} {Q : VK} (h : CallR X f r) (q : r vs H Q) : tC X f vs H Q := fun pins s σ us I rv => h pins s σ H vs us Q I rv q
def biV : Bi → Value
  | .len => .builtin "len" | .abs => .builtin "abs" | .int => .type "int" | .min2 => .builtin "min" | .max2 => .builtin "max" | .isi _ => .builtin "isinstance" | .tuple => .type "tuple" | .str => .type "str"
theorem rel1 {K : PySem.W.Frag} {m : Mp} {H : Hp} {w : W} {vs : List V} (r : RelWs K A m H [w] vs) : ∃ v, vs = [v] ∧ RelW K A m H w v := by
  obtain ⟨v, t, e, r1, r2⟩ := r
  rw [(show t = [] from r2)] at e
  exact ⟨v, e, r1⟩
theorem rel2 {K : PySem.W.Frag} {m : Mp} {H : Hp} {w w2 : W} {vs : List V} (r : RelWs K A m H [w, w2] vs) : ∃ v v2, vs = [v, v2] ∧ RelW K A m H w v ∧ RelW K A m H w2 v2 := by
  obtain ⟨v, t, e, r1, r2⟩ := r
  obtain ⟨v2, rfl, r3⟩ := rel1 r2
  exact ⟨v, v2, e, r1, r3⟩
theorem v_bi (C : Cok G N A T cal k X sc) {b : Bi} (nb : ∀ t, b ≠ .isi t) {m : Mp} {H : Hp} {h : Hs} {E : XK} {Q : VK} {ws : List W} {vs : List V} (hr : HRel X.K A m h H) (r : RelWs X.K A m H ws vs) (o : OutW X.K A T m H (bi1 h T b ws) Q E) : tC X (biV b) vs H Q := by
  unfold bi1 at o
  split at o
  · rename_i x
    obtain ⟨v, rfl, r1⟩ := rel1 r
    obtain ⟨c, o⟩ := out_if o
    exact tC_of call_len ⟨v, x.length, rfl, by rw [(show v = V.str x from r1)]; exact ⟨by rw [sz]; exact c, rfl⟩, out_ok o .rfl' hr rfl⟩
  · rename_i xs
    obtain ⟨v, rfl, r1⟩ := rel1 r
    obtain ⟨p, us, rfl, q, r2⟩ := rel_tup r1
    exact tC_of call_len ⟨_, us.length, rfl, .inr ⟨us, q, rfl⟩, by rw [← r2.length]; exact out_ok o .rfl' hr rfl⟩
  · rename_i n
    obtain ⟨v, rfl, r1⟩ := rel1 r
    obtain ⟨p, e, rfl⟩ := rel_ref r1
    split at o
    · rename_i xs ec
      obtain ⟨us, q, r2⟩ := hr.cell _ _ _ ec e
      exact tC_of call_len ⟨_, us.length, rfl, .inl ⟨us, SqL.of q, rfl⟩, by rw [← r2.length]; exact out_ok o .rfl' hr rfl⟩
    · rename_i xs ec
      obtain ⟨ob, us, q, r2⟩ := hr.cell _ _ _ ec e
      exact tC_of call_len ⟨_, us.length, rfl, .inl ⟨us, .inl (.inr ⟨ob, q⟩), rfl⟩, by rw [← r2.length]; exact out_ok o .rfl' hr rfl⟩
    · rename_i kvs ec
      obtain ⟨ks, q, r2⟩ := hr.cell _ _ _ ec e
      exact tC_of call_lenD ⟨p, ks, rfl, q, by rw [relKV_len r2]; exact out_ok o .rfl' hr rfl⟩
    · exact (show False from o).elim
  · rename_i i
    obtain ⟨v, rfl, r1⟩ := rel1 r
    exact tC_of call_abs ⟨i, by rw [(show v = V.int i from r1)], out_ok o .rfl' hr rfl⟩
  · rename_i i
    obtain ⟨v, rfl, r1⟩ := rel1 r
    exact tC_of call_int1 (.inl ⟨i, by rw [(show v = V.int i from r1)], out_ok o .rfl' hr rfl⟩)
  · rename_i b
    obtain ⟨v, rfl, r1⟩ := rel1 r
    exact tC_of call_int1 (.inr ⟨b, by rw [(show v = V.bl b from r1)], out_ok o .rfl' hr rfl⟩)
  · rename_i i j
    obtain ⟨v, v2, rfl, r1, r2⟩ := rel2 r
    exact tC_of (call_min2 C.calm) ⟨i, j, by rw [(show v = V.int i from r1), (show v2 = V.int j from r2)], out_ok o .rfl' hr rfl⟩
  · rename_i i j
    obtain ⟨v, v2, rfl, r1, r2⟩ := rel2 r
    exact tC_of (call_max2 C.calm) ⟨i, j, by rw [(show v = V.int i from r1), (show v2 = V.int j from r2)], out_ok o .rfl' hr rfl⟩
  · exact absurd rfl (nb _)
  · rename_i xs
    obtain ⟨v, rfl, r1⟩ := rel1 r
    obtain ⟨p, us, rfl, q, r2⟩ := rel_tup r1
    exact tC_of call_tuple_of ⟨p, us, rfl, .inr ⟨q, out_ok o .rfl' hr ⟨p, us, rfl, q, r2⟩⟩⟩
  · rename_i n
    obtain ⟨v, rfl, r1⟩ := rel1 r
    obtain ⟨p, e, rfl⟩ := rel_ref r1
    split at o
    · rename_i xs ec
      obtain ⟨us, q, r2⟩ := hr.cell _ _ _ ec e
      exact tC_of call_tuple_of ⟨p, us, rfl, .inl ⟨SqL.of q, fun l n => out_tup hr r2 o l n⟩⟩
    · rename_i xs ec
      obtain ⟨ob, us, q, r2⟩ := hr.cell _ _ _ ec e
      exact tC_of call_tuple_of ⟨p, us, rfl, .inl ⟨.inl (.inr ⟨ob, q⟩), fun l n => out_tup hr r2 o l n⟩⟩
    · exact (show False from o).elim
  · exact (show False from o).elim
end
end MP
end

section
set_option Elab.async false
set_option linter.all false
set_option maxRecDepth 100000
set_option maxHeartbeats 8000000
/-! MiniPy: built-ins called, isinstance. -/
namespace MP
open PySem PySem.Spec PyProof.Rows L2

section
variable {G : Glo} {N : List Str} {A : Nm} {T : Tab} {cal : Nat → List W → Hs → R W} {k : Nat} {X : Cx} {sc : Scope}
theorem boot_bi (b : Bi) : bootBuiltins (biN b) = some (biV b) := by
  cases b with
  | isi t => exact (by decide +kernel : bootBuiltins "isinstance" = some (.builtin "isinstance"))
  | _ => decide +kernel
/-- a built-in called with positional values -/
theorem s_callV (C : Cok G N A T cal k X sc) {x b : Str} {v : Value} {p pos : Pos} (h1 : nmB G sc x b = true) (hv : bootBuiltins b = some v) (kd : (∃ id, v = .builtin id) ∨ ∃ t, v = .type t) {e : Expr} {es : List Expr} (g : (e :: es).all good = true) {t : TA} (ha : PA X (e :: es) t) :
    PE X (.Call (.Name x p) (e :: es) [] pos) (tCB (tC X v) t) := by
  obtain ⟨rfl, g1, g2, hm, hn⟩ := nmB_gl C h1
  rw [List.all_cons, Bool.and_eq_true] at g
  rcases kd with ⟨id, rfl⟩ | ⟨ty, rfl⟩
  · exact pe_callB cr_w g1 hm hv ha hn g2 (star_cons g.1 es _) (stars g.2 pos _)
  · exact pe_callTy cr_w g1 hm hv ha hn g2 (star_cons g.1 es _) (stars g.2 pos _)
theorem biV_kd (b : Bi) : (∃ id, biV b = .builtin id) ∨ ∃ t, biV b = .type t := by
  cases b <;> first | exact .inl ⟨_, rfl⟩ | exact .inr ⟨_, rfl⟩
theorem bi1_nil (h : Hs) (b : Bi) : bi1 h T b [] = .stuck := by cases b <;> rfl
theorem s_bi (C : Cok G N A T cal k X sc) {b : Bi} (nb : ∀ t, b ≠ .isi t) {x : Str} {es : Exs} {xs : List Expr} {p pos : Pos} (h1 : nmB G sc x (biN b) = true) (al : AllSE A T cal X es xs) : SE A T X (.Call (.Name x p) xs [] pos) (evE T cal (.bi b es)) := by
  intro Wx tk m H σ env h Q hr he o
  rw [evE] at o
  cases xs with
  | nil =>
    cases es with
    | nil => rw [evEs, bind_ok, bi1_nil] at o; exact (show False from o).elim
    | cons _ _ => exact al.elim
  | cons y ys =>
    refine tE_of (s_callV C h1 (boot_bi b) (biV_kd b) al.good pa_w) ?_
    refine s_all al Wx tk m H σ env h _ hr he (Out.bind o fun ws h1 m1 H1 vs e1 s1 hr1 r1 o1 => ?_)
    exact v_bi C nb hr1 r1 o1
/-! ### isinstance -/
def isTn (n : String) : Ty → Bool
  | .int => n == "int" || n == "bool"
  | .bool => n == "bool"
  | .str => n == "str"
  | .list => n == "list"
  | .tuple => n == "tuple"
  | .dict => n == "dict"
  | .lt => n == "list" || n == "tuple"
  | _ => false
def isTc (T : Tab) (c : Nat) : Ty → Bool
  | .cls d => T.sub c d
  | _ => false
theorem isTy_ref {h : Hs} {t : Ty} {r : Nat} : isTy h T t (.ref r) = match h[r]? with
    | some (.lst _) => some (match t with | .list | .lt => true | _ => false)
    | some (.frz _) => some (match t with | .list | .lt => true | _ => false)
    | some (.dct _) => some (match t with | .dict => true | _ => false)
    | some (.fdc _) => some (match t with | .dict => true | _ => false)
    | some (.ins c _) => if T.plain c = true then some (isTc T c t) else none
    | none => none := by cases t <;> rfl
theorem ty_of (C : Cok G N A T cal k X sc) {m : Mp} {H : Hp} {h : Hs} {w : W} {x : V} {t : Ty} {b : Bool} (hr : HRel X.K A m h H) (r : RelW X.K A m H w x) (hb : isTy h T t w = some b) :
    ∃ tv, TyX X.K H x tv ∧ ((∃ n, n ∈ tyNs ∧ tv = .type n ∧ b = isTn n t) ∨ ∃ c, T.plain c = true ∧ tv = .ref (A.ca c) ∧ b = isTc T c t) := by
  cases w with
  | non => rw [(show x = V.non from r)]; exact ⟨_, .base .non, .inl ⟨"NoneType", by decide, rfl, by cases t <;> cases hb <;> rfl⟩⟩
  | bl v => rw [(show x = V.bl v from r)]; exact ⟨_, .base (.bl v), .inl ⟨"bool", by decide, rfl, by cases t <;> cases hb <;> rfl⟩⟩
  | int v => rw [(show x = V.int v from r)]; exact ⟨_, .base (.int v), .inl ⟨"int", by decide, rfl, by cases t <;> cases hb <;> rfl⟩⟩
  | str v => rw [(show x = V.str v from r)]; exact ⟨_, .base (.str v), .inl ⟨"str", by decide, rfl, by cases t <;> cases hb <;> rfl⟩⟩
  | tup ws =>
    obtain ⟨p, vs, rfl, q, r⟩ := rel_tup r
    refine ⟨.type "tuple", ?_, .inl ⟨"tuple", by decide, rfl, by cases t <;> cases hb <;> rfl⟩⟩
    rcases q with (q | ⟨ob, q⟩) | ⟨ob, its, n, q1, q2, _⟩
    · exact .base (.tup q)
    · exact .fTuple q
    · exact .kTuple q1 q2
  | ref n =>
    obtain ⟨p, e, rfl⟩ := rel_ref r
    rw [isTy_ref] at hb
    cases ec : h[n]? with
    | none => rw [ec] at hb; cases hb
    | some c =>
      have ck := hr.cell _ _ _ ec e
      cases c with
      | lst ws =>
        obtain ⟨vs, q, _⟩ := ck
        exact ⟨_, .base (.lst q), .inl ⟨"list", by decide, rfl, by rw [ec] at hb; cases t <;> cases hb <;> rfl⟩⟩
      | frz ws =>
        obtain ⟨ob, vs, q, _⟩ := ck
        exact ⟨_, .base (.frz q), .inl ⟨"list", by decide, rfl, by rw [ec] at hb; cases t <;> cases hb <;> rfl⟩⟩
      | fdc ws =>
        obtain ⟨ob, vs, q, _⟩ := ck
        exact ⟨_, .fDict q, .inl ⟨"dict", by decide, rfl, by rw [ec] at hb; cases t <;> cases hb <;> rfl⟩⟩
      | dct ws =>
        obtain ⟨vs, q, _⟩ := ck
        exact ⟨_, .base (.dK q), .inl ⟨"dict", by decide, rfl, by rw [ec] at hb; cases t <;> cases hb <;> rfl⟩⟩
      | ins c fs =>
        obtain ⟨dx, gs, q, _⟩ := ck
        have hp : T.plain c = true := by
          rw [ec] at hb
          have hb : (if T.plain c = true then some (isTc T c t) else none) = some b := hb
          split at hb <;> first | assumption | cases hb
        obtain ⟨c1, c2, c3, c4⟩ := C.fx.cls c hp
        refine ⟨_, .base (.ins q c1 c3 C.fx.sgd C.fx.stk c4), .inr ⟨c, hp, rfl, ?_⟩⟩
        rw [ec] at hb
        have hb : (if T.plain c = true then some (isTc T c t) else none) = some b := hb
        rw [if_pos hp] at hb
        exact (Option.some.inj hb).symm
  | fn f => cases t <;> cases hb
  | cls f => cases t <;> cases hb
  | exn c ws => exact (show False from r).elim
theorem isTn_eq {n : String} (h : n ∈ tyNs) : isTn n .int = (decide (Value.type n = .type "int") || (decide (Value.type n = .type "bool") && decide (Value.type "int" = .type "int"))) ∧
    isTn n .bool = (decide (Value.type n = .type "bool") || (decide (Value.type n = .type "bool") && decide (Value.type "bool" = .type "int"))) ∧
    isTn n .str = (decide (Value.type n = .type "str") || (decide (Value.type n = .type "bool") && decide (Value.type "str" = .type "int"))) ∧
    isTn n .list = (decide (Value.type n = .type "list") || (decide (Value.type n = .type "bool") && decide (Value.type "list" = .type "int"))) ∧
    isTn n .tuple = (decide (Value.type n = .type "tuple") || (decide (Value.type n = .type "bool") && decide (Value.type "tuple" = .type "int"))) ∧
    isTn n .dict = (decide (Value.type n = .type "dict") || (decide (Value.type n = .type "bool") && decide (Value.type "dict" = .type "int"))) ∧
    false = (decide (Value.type n = .type "ValueError") || (decide (Value.type n = .type "bool") && decide (Value.type "ValueError" = .type "int"))) := by
  simp only [tyNs, List.mem_cons, List.not_mem_nil, or_false] at h
  rcases h with rfl | rfl | rfl | rfl | rfl | rfl | rfl <;> decide

def cvN : Ty → String
  | .int => "int" | .bool => "bool" | .str => "str" | .list => "list" | .tuple => "tuple" | .dict => "dict" | _ => "ValueError"
theorem kit_ty1 (C : Cok G N A T cal k X sc) {n : String} (h : n ∈ tyNs) {t : Ty} (nl : t ≠ .lt) (nc : ∀ c, t ≠ .cls c) : PySem.W.kitOne X.K (.type n) (.type (cvN t)) = some (isTn n t) := by
  obtain ⟨q1, q2, q3, q4, q5, q6, q7⟩ := isTn_eq h
  have ha : (∃ n', Value.type n = Value.type n' ∧ n' ∈ ["NoneType", "bool", "int", "str", "list", "tuple", "dict"]) := ⟨n, rfl, h⟩
  cases t with
  | lt => exact absurd rfl nl
  | cls c => exact absurd rfl (nc c)
  | int => rw [q1]; exact C.fx.isa _ _ ha ⟨_, rfl, by decide⟩
  | bool => rw [q2]; exact C.fx.isa _ _ ha ⟨_, rfl, by decide⟩
  | str => rw [q3]; exact C.fx.isa _ _ ha ⟨_, rfl, by decide⟩
  | list => rw [q4]; exact C.fx.isa _ _ ha ⟨_, rfl, by decide⟩
  | tuple => rw [q5]; exact C.fx.isa _ _ ha ⟨_, rfl, by decide⟩
  | dict => rw [q6]; exact C.fx.isa _ _ ha ⟨_, rfl, by decide⟩
  | verr =>
    rw [show isTn n .verr = false from rfl, q7]
    exact C.fx.isa _ _ ha ⟨_, rfl, by decide⟩
theorem kit_tyC (C : Cok G N A T cal k X sc) {c : Nat} (hp : T.plain c = true) {t : Ty} (nc : ∀ c, t ≠ .cls c) : PySem.W.kitOne X.K (.ref (A.ca c)) (.type (cvN t)) = some false := by
  refine C.fx.isc c _ hp ⟨_, rfl, ?_⟩
  cases t <;> first | decide | exact absurd rfl (nc _)
/-- an isinstance test of one class, of the pair (list, tuple) -/
theorem s_isi (C : Cok G N A T cal k X sc) {t : Ty} {x : Str} {e : Ex} {y z : Expr} {p pos : Pos} (h1 : nmB G sc x "isinstance" = true) (h2 : trTy G sc t z = true) (gy : good y = true) (se : SE A T X y (evE T cal e)) : SE A T X (.Call (.Name x p) [y, z] [] pos) (evE T cal (.bi (.isi t) (.cons e .nil))) := by
  intro Wx tk m H σ env h Q hr he o
  have o : OutW X.K A T m H ((evE T cal e env h).bind fun w h1 => R.opt h1 ((isTy h1 T t w).map .bl)) Q (fun c d H' => Wx c d σ H') := by
    rw [evE] at o
    simp only [evEs] at o
    cases er : evE T cal e env h with
    | ok w h1 => rw [er] at o; exact o
    | raise c vs h1 => rw [er] at o; exact o
    | stuck => rw [er] at o; exact o
  have bi : bootBuiltins "isinstance" = some (.builtin "isinstance") := by decide +kernel
  have one : ∀ {b : Str} {n : String} {q : Str} {p : Pos}, nmB G sc q b = true → bootBuiltins b = some (.type n) → PE X (.Name q p) (L2.tC (.ty n)) := by
    intro b n q p hq hb
    obtain ⟨rfl, g1, g2, hm, hn⟩ := nmB_gl C hq
    exact pe_bltn g1 hm hb rfl hn g2
  -- a class that is one name
  have two : ∀ (cv : V) (u : Value), good z = true → PE X z (L2.tC cv) → ClsV cv u → (∀ n, n ∈ tyNs → PySem.W.kitOne X.K (.type n) u = some (isTn n t)) → (∀ c, T.plain c = true → PySem.W.kitOne X.K (.ref (A.ca c)) u = some (isTc T c t)) →
      tE X (.Call (.Name x p) [y, z] [] pos) σ H Q := by
    intro cv u gz hz hc k1 k2
    refine tE_of (s_callV C h1 bi (.inl ⟨_, rfl⟩) (e := y) (es := [z]) (by rw [List.all_cons, List.all_cons, gy, gz]; rfl) (pa_cons pe_w (pa_cons hz pa_nil (star_cons gz [] _)) (star_cons gy [z] _))) ?_
    refine se Wx tk m H σ env h _ hr he (Out.bind o fun w h1 m1 H1 v e1 s1 hr1 r1 o1 => ?_)
    obtain ⟨w2, ew, o1⟩ := out_opt o1
    obtain ⟨b, eb, rfl⟩ := Option.map_eq_some_iff.mp ew
    obtain ⟨tv, ty, hty⟩ := ty_of C hr1 r1 eb
    refine tC_of call_isi ⟨v, cv, tv, u, b, rfl, hc, ty, ?_, out_ok o1 .rfl' hr1 rfl⟩
    rcases hty with ⟨n, hn, rfl, rfl⟩ | ⟨c, hp, rfl, rfl⟩
    · exact k1 n hn
    · exact k2 c hp
  have bt : ∀ (n : String) (b : Str), bootBuiltins b = some (.type n) → cvN t = n → (∀ c, t ≠ .cls c) → t ≠ .lt → (∃ q p, z = .Name q p ∧ nmB G sc q b = true) → tE X (.Call (.Name x p) [y, z] [] pos) σ H Q := by
    intro n b hb hn nc nl ⟨q, p', ez, hq⟩
    subst ez
    refine two (.ty n) (.type n) rfl (one hq hb) (.ty n) (fun n' h' => ?_) (fun c hp => ?_)
    · rw [← hn]; exact kit_ty1 C h' nl nc
    · rw [← hn, kit_tyC C hp nc]
      cases t <;> first | rfl | exact absurd rfl (nc _)
  cases t with
  | int => cases z <;> first | exact bt "int" "int" (by decide +kernel) rfl (fun _ e => nomatch e) (fun e => nomatch e) ⟨_, _, rfl, h2⟩ | cases h2
  | bool => cases z <;> first | exact bt "bool" "bool" (by decide +kernel) rfl (fun _ e => nomatch e) (fun e => nomatch e) ⟨_, _, rfl, h2⟩ | cases h2
  | str => cases z <;> first | exact bt "str" "str" (by decide +kernel) rfl (fun _ e => nomatch e) (fun e => nomatch e) ⟨_, _, rfl, h2⟩ | cases h2
  | list => cases z <;> first | exact bt "list" "list" (by decide +kernel) rfl (fun _ e => nomatch e) (fun e => nomatch e) ⟨_, _, rfl, h2⟩ | cases h2
  | tuple => cases z <;> first | exact bt "tuple" "tuple" (by decide +kernel) rfl (fun _ e => nomatch e) (fun e => nomatch e) ⟨_, _, rfl, h2⟩ | cases h2
  | dict => cases z <;> first | exact bt "dict" "dict" (by decide +kernel) rfl (fun _ e => nomatch e) (fun e => nomatch e) ⟨_, _, rfl, h2⟩ | cases h2
  | verr => cases z <;> first | exact bt "ValueError" "ValueError" (by decide +kernel) rfl (fun _ e => nomatch e) (fun e => nomatch e) ⟨_, _, rfl, h2⟩ | cases h2
  | cls c =>
    cases z with
    | Name q p' =>
      have h2' : (nmG sc q && decide (G.gc.lookup q = some c)) = true := h2
      rw [Bool.and_eq_true, decide_eq_true_eq] at h2'
      obtain ⟨g1, g2⟩ := nmG_gl C h2'.1
      refine two (.ref (A.ca c)) (.ref (A.ca c)) rfl (pe_glob g1 (C.fx.gc q c h2'.2) rfl g2) (.own _) (fun n hn => ?_) (fun d hp => ?_)
      · exact C.fx.isb _ c ⟨n, rfl, hn⟩ ⟨q, h2'.2⟩
      · exact C.fx.isd d c hp ⟨q, h2'.2⟩
    | _ => cases h2
  | lt =>
    have hz : ∃ a p1 b p2 n p3, z = .Tuple [.Name a p1, .Name b p2] n p3 ∧ nmB G sc a "list" = true ∧ nmB G sc b "tuple" = true := by
      unfold trTy at h2
      split at h2 <;> first | (rename_i e; cases e; done) | skip
      · rename_i a _ b _ _ _ _ 
        rw [Bool.and_eq_true] at h2
        exact ⟨_, _, _, _, _, _, rfl, h2.1, h2.2⟩
      · cases h2
    obtain ⟨a, p1, b, p2, n, p3, rfl, ha, hb⟩ := hz
    have gz : good (.Tuple [.Name a p1, .Name b p2] n p3) = true := rfl
    refine tE_of (s_callV C h1 bi (.inl ⟨_, rfl⟩) (e := y) (es := [_]) (by rw [List.all_cons, List.all_cons, gy, gz]; rfl) (pa_cons pe_w (pa_cons (pe_tup (pa_cons (one (n := "list") ha (by decide +kernel)) (pa_cons (one (n := "tuple") hb (by decide +kernel)) pa_nil))) pa_nil (star_cons gz [] _)) (star_cons gy [_] _))) ?_
    refine se Wx tk m H σ env h _ hr he (Out.bind o fun w h1 m1 H1 v e1 s1 hr1 r1 o1 => ?_)
    obtain ⟨w2, ew, o1⟩ := out_opt o1
    obtain ⟨bb, eb, rfl⟩ := Option.map_eq_some_iff.mp ew
    refine ⟨by rw [sz]; decide, fun q hq => ?_⟩
    have hr2 := hr1.laid (o := .tup [.ty "list", .ty "tuple"]) hq
    have s2 : Stp m1 H1 m1 (upd H1 q (.tup [.ty "list", .ty "tuple"])) := Stp.laid hq
    obtain ⟨tv, ty, hty⟩ := ty_of C hr2 (r1.mono s2) eb
    refine tC_of call_isiT ⟨v, q, [.ty "list", .ty "tuple"], tv, [.type "list", .type "tuple"], bb, rfl, upd_same, .cons (.ty _) (.cons (.ty _) .nil), ty, ?_, Out.step o1 s2 m1 _ _ .rfl' hr2 rfl⟩
    rcases hty with ⟨n, hn, rfl, rfl⟩ | ⟨c, hp, rfl, rfl⟩
    · refine kitAny_cons (b := isTn n .list) (kit_ty1 (t := .list) C hn (fun e => nomatch e) (fun _ e => nomatch e)) (fun _ => kitAny_cons (b := isTn n .tuple) (kit_ty1 (t := .tuple) C hn (fun e => nomatch e) (fun _ e => nomatch e)) (fun _ => ?_) fun e => ?_) fun e => ?_
      · rename_i e1 e2
        show some false = some (isTn n .list || isTn n .tuple)
        rw [e1, e2]; rfl
      · show (isTn n .list || isTn n .tuple) = true
        rw [e, Bool.or_true]
      · show (isTn n .list || isTn n .tuple) = true
        rw [e, Bool.true_or]
    · exact kitAny_cons (b := false) (kit_tyC (t := .list) C hp (fun _ e => nomatch e)) (fun _ => kitAny_cons (b := false) (kit_tyC (t := .tuple) C hp (fun _ e => nomatch e)) (fun _ => rfl) fun e => nomatch e) fun e => nomatch e
end
end MP
end

section
set_option Elab.async false
set_option linter.all false
set_option maxRecDepth 100000
set_option maxHeartbeats 8000000
/-! MiniPy: sequences that are read; what a list made on the spot is used for; membership. -/
namespace MP
open PySem PySem.Spec PyProof.Rows L2

def SvW (sv : Sv) : W → Prop
  | .tup xs => sv = ⟨xs, none, false⟩
  | .str x => sv = ⟨x.cps.toList.map fun c => .str ⟨#[c]⟩, none, false⟩
  | .ref r => ∃ c, sv.g = some (r, c) ∧ ((c = .lst sv.items ∧ sv.l = true) ∨ (c = .frz sv.items ∧ sv.l = true) ∨ ∃ kvs, c = .fdc kvs ∧ sv.items = kvs.map (·.1) ∧ sv.l = false)
  | _ => False
theorem seqOf_inv {h h' : Hs} {w : W} {sv : Sv} (e : seqOf h w = .ok sv h') : h' = h ∧ SvW sv w ∧ gOk sv.g h = true := by
  cases w with
  | tup xs => cases e; exact ⟨rfl, rfl, rfl⟩
  | str x => cases e; exact ⟨rfl, rfl, rfl⟩
  | ref r =>
    have e : (match h[r]? with
      | some (.lst xs) => R.ok (Sv.mk xs (some (r, .lst xs)) true) h
      | some (.frz xs) => R.ok (Sv.mk xs (some (r, .frz xs)) true) h
      | some (.fdc kvs) => R.ok (Sv.mk (kvs.map Prod.fst) (some (r, .fdc kvs)) false) h
      | _ => .stuck) = .ok sv h' := e
    split at e
    · rename_i xs ec; cases e; exact ⟨rfl, ⟨_, rfl, .inl ⟨rfl, rfl⟩⟩, decide_eq_true ec⟩
    · rename_i xs ec; cases e; exact ⟨rfl, ⟨_, rfl, .inr (.inl ⟨rfl, rfl⟩)⟩, decide_eq_true ec⟩
    · rename_i xs ec; cases e; exact ⟨rfl, ⟨_, rfl, .inr (.inr ⟨_, rfl, rfl, rfl⟩)⟩, decide_eq_true ec⟩
    · cases e
  | _ => cases e
section
variable {G : Glo} {N : List Str} {A : Nm} {T : Tab} {cal : Nat → List W → Hs → R W} {k : Nat} {X : Cx} {sc : Scope}
/-- a sequence that is read: a value, or a list made on the spot -/
def RelQ (A : Nm) (K : PySem.W.Frag) (H0 : Hp) (m : Mp) (H : Hp) (sv : Sv) (v : V) : Prop := (RelD A K H0 m H sv.items v ∧ sv.g = none ∧ sv.l = true) ∨ ∃ w, RelW K A m H w v ∧ SvW sv w
def SQ (A : Nm) (T : Tab) (X : Cx) (e : Expr) (ev : Env → Hs → R Sv) : Prop := ∀ (Wx : WX), Takes X Wx → ∀ m H σ env h Q, HRel X.K A m h H → EnvR X.K A m H env σ →
  Out X.K A T (RelQ A X.K H) m H (ev env h) Q (fun c d H' => Wx c d σ H') → tE X e σ H Q
theorem RelD.mono {K : PySem.W.Frag} {H0 H H' : Hp} {m m' : Mp} {ws : List W} {v : V} (s : Stp m H m' H') (r : RelD A K H0 m H ws v) : RelD A K H0 m' H' ws v := by
  obtain ⟨D, vs, e, hD, nD, n0, rv⟩ := r
  refine ⟨D, vs, e, s.fr D _ hD nD, fun z => ?_, n0, rv.mono s⟩
  rcases s.nw D z with z | z
  · exact nD z
  · rw [hD] at z; cases z
theorem RelQ.mono {K : PySem.W.Frag} {H0 H H' : Hp} {m m' : Mp} {sv : Sv} {v : V} (s : Stp m H m' H') (r : RelQ A K H0 m H sv v) : RelQ A K H0 m' H' sv v := by
  rcases r with ⟨r, e⟩ | ⟨w, r, e⟩
  · exact .inl ⟨r.mono s, e⟩
  · exact .inr ⟨w, r.mono s, e⟩
theorem RelQ.list {K : PySem.W.Frag} {H0 H : Hp} {m : Mp} {h : Hs} {sv : Sv} {v : V} (hr : HRel K A m h H) (r : RelQ A K H0 m H sv v) (hl : sv.l = true) (hg : gOk sv.g h = true) : ∃ p vs, v = .ref p ∧ SqL K H p vs ∧ RelWs K A m H sv.items vs := by
  rcases r with ⟨⟨D, vs, e, hD, _, _, rv⟩, _⟩ | ⟨w, r, e⟩
  · exact ⟨D, vs, e, SqL.of hD, rv⟩
  · cases w with
    | tup xs => rw [(show sv = _ from e)] at hl; cases hl
    | str x => rw [(show sv = _ from e)] at hl; cases hl
    | ref n =>
      obtain ⟨p, e1, rfl⟩ := rel_ref r
      obtain ⟨c, eg, z⟩ := (show ∃ c, _ from e)
      rw [eg] at hg
      have ec : h[n]? = some c := of_decide_eq_true hg
      have ck := hr.cell _ _ _ ec e1
      rcases z with ⟨rfl, _⟩ | ⟨rfl, _⟩ | ⟨kvs, _, _, q⟩
      · obtain ⟨vs, q, rv⟩ := ck; exact ⟨p, vs, rfl, SqL.of q, rv⟩
      · obtain ⟨ob, vs, q, rv⟩ := ck; exact ⟨p, vs, rfl, .inl (.inr ⟨ob, q⟩), rv⟩
      · rw [q] at hl; cases hl
    | _ => exact (show False from e).elim
theorem s_qval {e : Ex} {x : Expr} (se : SE A T X x (evE T cal e)) : SQ A T X x (evSq T cal (.val e)) := by
  intro Wx tk m H σ env h Q hr he o
  rw [evSq] at o
  refine se Wx tk m H σ env h _ hr he (Out.bind o fun w h1 m1 H1 v e1 s1 hr1 r1 o1 => ?_)
  cases es : seqOf h1 w with
  | ok sv h2 =>
    obtain ⟨rfl, q, _⟩ := seqOf_inv es
    rw [es] at o1
    exact out_ok o1 .rfl' hr1 (.inr ⟨w, r1, q⟩)
  | raise c vs h2 =>
    exfalso
    unfold seqOf at es
    split at es <;> first | cases es | (split at es <;> cases es)
  | stuck => rw [es] at o1; exact (show False from o1).elim
theorem s_qfresh {l : Le} {x : Expr} (sl : SL A T X x (evL T cal l)) : SQ A T X x (evSq T cal (.fresh l)) := by
  intro Wx tk m H σ env h Q hr he o
  rw [evSq] at o
  exact sl Wx tk m H σ env h _ hr he (Out.bind o fun w h1 m1 H1 v e1 s1 hr1 r1 o1 => out_ok o1 .rfl' hr1 (.inl ⟨r1, rfl, rfl⟩))
theorem evSq_g {s : Sq} {env : Env} {h h1 : Hs} {sv : Sv} (e : evSq T cal s env h = .ok sv h1) : gOk sv.g h1 = true := by
  cases s with
  | val x =>
    rw [evSq] at e
    cases ex : evE T cal x env h with
    | ok w h2 =>
      rw [ex, bind_ok] at e
      obtain ⟨rfl, _, g⟩ := seqOf_inv e
      exact g
    | raise c vs h2 => rw [ex, bind_raise] at e; cases e
    | stuck => rw [ex, bind_stuck] at e; cases e
  | fresh l =>
    rw [evSq] at e
    cases ex : evL T cal l env h with
    | ok w h2 => rw [ex, bind_ok] at e; cases e; rfl
    | raise c vs h2 => rw [ex, bind_raise] at e; cases e
    | stuck => rw [ex, bind_stuck] at e; cases e
/-! ### ints, bools -/
section
variable {K : PySem.W.Frag} {m : Mp} {H : Hp}
theorem allB_rel : ∀ {ws : List W} {vs : List V} {bs : List Bool}, allB ws = some bs → RelWs K A m H ws vs → vs = bs.map V.bl
  | [], _, _, e, r => by cases e; exact r
  | w :: ws, _, bs, e, ⟨v, r, ev, rv, rr⟩ => by
    cases w with
    | bl b =>
      obtain ⟨cs, e1, e2⟩ := Option.map_eq_some_iff.mp (show (allB ws).map (b :: ·) = some bs from e)
      rw [ev, ← e2, (show v = V.bl b from rv), allB_rel e1 rr]; rfl
    | _ => cases e
theorem allI_rel : ∀ {ws : List W} {vs : List V} {bs : List Int}, allI ws = some bs → RelWs K A m H ws vs → vs = bs.map V.int
  | [], _, _, e, r => by cases e; exact r
  | w :: ws, _, bs, e, ⟨v, r, ev, rv, rr⟩ => by
    cases w with
    | int b =>
      obtain ⟨cs, e1, e2⟩ := Option.map_eq_some_iff.mp (show (allI ws).map (b :: ·) = some bs from e)
      rw [ev, ← e2, (show v = V.int b from rv), allI_rel e1 rr]; rfl
    | _ => cases e
end
theorem foldMax_ge : ∀ (l : List Int) (m : Int), m ≤ foldMax m l ∧ (∀ y ∈ l, y ≤ foldMax m l) ∧ (foldMax m l = m ∨ foldMax m l ∈ l)
  | [], m => ⟨Int.le_refl _, (fun y h => nomatch h), .inl rfl⟩
  | x :: r, m => by
    obtain ⟨h1, h2, h3⟩ := foldMax_ge r (if x > m then x else m)
    unfold foldMax
    by_cases h : x > m
    · rw [if_pos h] at *
      refine ⟨by omega, fun y hy => ?_, ?_⟩
      · rcases List.mem_cons.mp hy with rfl | hy
        · exact h1
        · exact h2 y hy
      · rcases h3 with h3 | h3
        · exact .inr (by rw [h3]; exact List.mem_cons_self)
        · exact .inr (List.mem_cons_of_mem _ h3)
    · rw [if_neg h] at *
      refine ⟨h1, fun y hy => ?_, ?_⟩
      · rcases List.mem_cons.mp hy with rfl | hy
        · omega
        · exact h2 y hy
      · rcases h3 with h3 | h3
        · exact .inl h3
        · exact .inr (List.mem_cons_of_mem _ h3)
theorem foldMin_le : ∀ (l : List Int) (m : Int), foldMin m l ≤ m ∧ (∀ y ∈ l, foldMin m l ≤ y) ∧ (foldMin m l = m ∨ foldMin m l ∈ l)
  | [], m => ⟨Int.le_refl _, (fun y h => nomatch h), .inl rfl⟩
  | x :: r, m => by
    obtain ⟨h1, h2, h3⟩ := foldMin_le r (if x < m then x else m)
    unfold foldMin
    by_cases h : x < m
    · rw [if_pos h] at *
      refine ⟨by omega, fun y hy => ?_, ?_⟩
      · rcases List.mem_cons.mp hy with rfl | hy
        · exact h1
        · exact h2 y hy
      · rcases h3 with h3 | h3
        · exact .inr (by rw [h3]; exact List.mem_cons_self)
        · exact .inr (List.mem_cons_of_mem _ h3)
    · rw [if_neg h] at *
      refine ⟨h1, fun y hy => ?_, ?_⟩
      · rcases List.mem_cons.mp hy with rfl | hy
        · omega
        · exact h2 y hy
      · rcases h3 with h3 | h3
        · exact .inl h3
        · exact .inr (List.mem_cons_of_mem _ h3)
/-! ### dicts -/
section
variable {K : PySem.W.Frag} {m : Mp} {H : Hp}
theorem relKV_any {k : Key} : ∀ {kvs : List (W × W)} {ks : List (Key × V)}, RelKV K A m H kvs ks → (kvs.any fun p => decide (p.1 = keyW k)) = (ks.any fun p => decide (p.1 = k))
  | [], _, e => by rw [(show _ = [] from e)]; rfl
  | (a, u) :: r, _, ⟨k', v, ks, e, ek, rv, t⟩ => by
    subst e
    have ek' : a = keyW k' := ek
    subst ek'
    rw [List.any_cons, List.any_cons, relKV_any t]
    congr 1
    by_cases h : k' = k
    · subst h; simp
    · have h2 : ¬ keyW k' = keyW k := fun e => h (keyW_inj e)
      simp [h, h2]
theorem relKV_app {k : Key} {w : W} {v : V} (rv : RelW K A m H w v) : ∀ {kvs : List (W × W)} {ks : List (Key × V)}, RelKV K A m H kvs ks → RelKV K A m H (kvs ++ [(keyW k, w)]) (ks ++ [(k, v)])
  | [], _, e => by rw [(show _ = [] from e)]; exact ⟨k, v, [], rfl, rfl, rv, rfl⟩
  | _ :: _, _, ⟨k', v', ks, e, ek, rv', t⟩ => by subst e; exact ⟨k', v', _, rfl, ek, rv', relKV_app rv t⟩
theorem relKV_map {k : Key} {w : W} {v : V} (rv : RelW K A m H w v) : ∀ {kvs : List (W × W)} {ks : List (Key × V)}, RelKV K A m H kvs ks → RelKV K A m H (kvs.map fun p => if p.1 = keyW k then (p.1, w) else p) (ks.map fun p => if p.1 = k then (p.1, v) else p)
  | [], _, e => by rw [(show _ = [] from e)]; rfl
  | (a, u) :: r, _, ⟨k', v', ks, e, ek, rv', t⟩ => by
    subst e
    have ek' : a = keyW k' := ek
    subst ek'
    rw [List.map_cons, List.map_cons]
    by_cases h : k' = k
    · subst h
      rw [if_pos rfl, if_pos rfl]
      exact ⟨k', v, _, rfl, rfl, rv, relKV_map rv t⟩
    · rw [if_neg (fun e => h (keyW_inj e)), if_neg h]
      exact ⟨k', v', _, rfl, rfl, rv', relKV_map rv t⟩
theorem relKV_put {k : Key} {w : W} {v : V} (rv : RelW K A m H w v) {kvs : List (W × W)} {ks : List (Key × V)} (r : RelKV K A m H kvs ks) : RelKV K A m H (dPut (keyW k) w kvs) (putK ks k v) := by
  unfold dPut putK
  rw [relKV_any r]
  by_cases h : (ks.any fun kv => decide (kv.1 = k)) = true
  · rw [if_pos h, if_pos h]; exact relKV_map rv r
  · rw [if_neg h, if_neg h]; exact relKV_app rv r
/-- a list of pairs -/
theorem pairsD_rel : ∀ {ws : List W} {vs : List V} {acc kvs : List (W × W)} {ks : List (Key × V)}, pairsD ws acc = some kvs → RelWs K A m H ws vs → RelKV K A m H acc ks →
    ∃ (ps : List Addr) (qs : List (Key × V)), vs = ps.map V.ref ∧ Paired (fun p kv => SqT K H p [L2.kV kv.1, kv.2]) ps qs ∧ RelKV K A m H kvs (mergeK ks qs)
  | [], _, _, _, ks, e, r, q => by cases e; rw [(show _ = [] from r)]; exact ⟨[], [], rfl, .nil, q⟩
  | w :: ws, _, acc, kvs, ks, e, ⟨v, r, ev, rv, rr⟩, q => by
    unfold pairsD at e
    split at e
    · rename_i h1; cases h1
    · rename_i k0 v0 r0 _ h1
      cases h1
      split at e
      · rename_i hk
        obtain ⟨p, us, rfl, hq, ru⟩ := rel_tup rv
        obtain ⟨vk, vv, rfl, r1, r2⟩ := rel2 ru
        obtain ⟨kk, rfl, rfl⟩ := key_rel hk r1
        obtain ⟨ps, qs, e1, e2, e3⟩ := pairsD_rel e rr (relKV_put (k := kk) r2 q)
        exact ⟨p :: ps, (kk, vv) :: qs, by rw [ev, e1]; rfl, .cons hq e2, e3⟩
      · cases e
    · cases e
end
end
end MP
end

section
set_option Elab.async false
set_option linter.all false
set_option maxRecDepth 100000
set_option maxHeartbeats 8000000
/-! MiniPy: consumers of sequences, membership, comparison of lists made on the spot, built-in methods. -/
namespace MP
open PySem PySem.Spec PyProof.Rows L2

section
variable {G : Glo} {N : List Str} {A : Nm} {T : Tab} {cal : Nat → List W → Hs → R W} {k : Nat} {X : Cx} {sc : Scope}
def lbV : Lb → Value
  | .all => .builtin "all" | .any => .builtin "any" | .len => .builtin "len" | .sum => .builtin "sum" | .min => .builtin "min" | .max => .builtin "max" | .tuple => .type "tuple" | .dict => .type "dict" | .lenSet => .builtin "len"
theorem boot_lb (b : Lb) : bootBuiltins (lbN b) = some (lbV b) := by cases b <;> decide +kernel
theorem lbV_kd (b : Lb) : (∃ id, lbV b = .builtin id) ∨ ∃ t, lbV b = .type t := by
  cases b <;> first | exact .inl ⟨_, rfl⟩ | exact .inr ⟨_, rfl⟩
theorem out_optm {α β : Type} {K : PySem.W.Frag} {m : Mp} {H : Hp} {Rl : Mp → Hp → β → V → Prop} {p : Option α} {f : α → β} {h : Hs} {Q : VK} {E : XK} (o : Out K A T Rl m H (R.opt h (p.map f)) Q E) : ∃ w, p = some w ∧ Out K A T Rl m H (.ok (f w) h) Q E := by
  obtain ⟨w, e, o⟩ := out_opt o
  obtain ⟨a, e1, rfl⟩ := Option.map_eq_some_iff.mp e
  exact ⟨a, e1, o⟩
theorem s_lb (C : Cok G N A T cal k X sc) {b : Lb} {s : Sq} {x : Str} {y : Expr} {p pos : Pos} (hx : nmB G sc x (lbN b) = true) (gy : good y = true) (sq : SQ A T X y (evSq T cal s)) : SE A T X (.Call (.Name x p) [y] [] pos) (evE T cal (.lb b s)) := by
  intro Wx tk m H σ env h Q hr he o
  rw [evE] at o
  refine tE_of (s_callV C hx (boot_lb b) (lbV_kd b) (e := y) (es := []) (by rw [List.all_cons, gy]; rfl) (pa_cons pe_w pa_nil (star_cons gy [] _))) ?_
  refine sq Wx tk m H σ env h _ hr he (Out.bind o fun sv h1 m1 H1 v e1 s1 hr1 r1 o1 => ?_)
  obtain ⟨hl, o1⟩ := out_if o1
  obtain ⟨q, vs, rfl, hq, rv⟩ := r1.list hr1 hl (evSq_g e1)
  show tC X (lbV b) [V.ref q] H1 Q
  cases b with
  | all =>
    obtain ⟨bs, eb, o1⟩ := out_optm o1
    obtain rfl := allB_rel eb rv
    exact tC_of (cr_all C.calm) ⟨q, bs, rfl, hq, out_ok o1 .rfl' hr1 rfl⟩
  | any =>
    obtain ⟨bs, eb, o1⟩ := out_optm o1
    obtain rfl := allB_rel eb rv
    exact tC_of (cr_any C.calm) ⟨q, bs, rfl, hq, out_ok o1 .rfl' hr1 rfl⟩
  | len => exact tC_of call_len ⟨_, vs.length, rfl, .inl ⟨vs, hq, rfl⟩, by rw [← rv.length]; exact out_ok o1 .rfl' hr1 rfl⟩
  | sum =>
    obtain ⟨bs, eb, o1⟩ := out_optm o1
    obtain rfl := allI_rel eb rv
    exact tC_of (cr_sum C.calm) ⟨q, bs, rfl, hq, out_ok o1 .rfl' hr1 rfl⟩
  | min =>
    have o1 : OutW X.K A T m1 H1 (match allI sv.items with
      | some (x :: r) => .ok (.int (foldMin x r)) h1
      | _ => .stuck) Q (fun c d H' => Wx c d σ H') := o1
    split at o1
    · rename_i a r ea
      obtain rfl := allI_rel ea rv
      refine tC_of (cr_min C.calm) ⟨q, a :: r, rfl, hq, Nat.succ_pos _, fun M hM hall => ?_⟩
      obtain ⟨z1, z2, z3⟩ := foldMin_le r a
      have e : M = foldMin a r := by
        have h1 : M ≤ foldMin a r := by
          rcases z3 with z3 | z3
          · rw [z3]; exact hall a List.mem_cons_self
          · exact hall _ (List.mem_cons_of_mem _ z3)
        have h2 : foldMin a r ≤ M := by
          rcases List.mem_cons.mp hM with rfl | hM
          · exact z1
          · exact z2 M hM
        omega
      rw [e]
      exact out_ok o1 .rfl' hr1 rfl
    · exact (show False from o1).elim
  | max =>
    have o1 : OutW X.K A T m1 H1 (match allI sv.items with
      | some (x :: r) => .ok (.int (foldMax x r)) h1
      | _ => .stuck) Q (fun c d H' => Wx c d σ H') := o1
    split at o1
    · rename_i a r ea
      obtain rfl := allI_rel ea rv
      refine tC_of (cr_max C.calm) ⟨q, a :: r, rfl, hq, Nat.succ_pos _, fun M hM hall => ?_⟩
      obtain ⟨z1, z2, z3⟩ := foldMax_ge r a
      have e : M = foldMax a r := by
        have h1 : foldMax a r ≤ M := by
          rcases z3 with z3 | z3
          · rw [z3]; exact hall a List.mem_cons_self
          · exact hall _ (List.mem_cons_of_mem _ z3)
        have h2 : M ≤ foldMax a r := by
          rcases List.mem_cons.mp hM with rfl | hM
          · exact z1
          · exact z2 M hM
        omega
      rw [e]
      exact out_ok o1 .rfl' hr1 rfl
    · exact (show False from o1).elim
  | tuple => exact tC_of call_tuple_of ⟨q, vs, rfl, .inl ⟨hq, fun l n => out_tup hr1 rv o1 l n⟩⟩
  | dict =>
    have o1 : OutW X.K A T m1 H1 (match pairsD sv.items [] with
      | some kvs => .ok (.ref h1.length) (h1 ++ [.dct kvs])
      | none => .stuck) Q (fun c d H' => Wx c d σ H') := o1
    split at o1
    · rename_i kvs ek
      obtain ⟨ps, qs, rfl, hp, hk⟩ := pairsD_rel (ks := []) ek rv rfl
      exact tC_of (call_dictP C.calm) ⟨q, ps, qs, rfl, hq, hp, fun l n => o1 (m1 ++ [l]) _ (.ref l) (Stp.grown n) (hr1.grown n ⟨_, upd_same, hk.mono (Stp.grown n)⟩) ⟨l, grown_at hr1, rfl⟩⟩
    · exact (show False from o1).elim
  | lenSet => exact (show False from o1).elim
theorem s_dct0 {pos : Pos} : SE A T X (.Dict [] [] pos) (evE T cal .dct0) := by
  intro Wx tk m H σ env h Q hr he o
  refine tE_of pe_dnewK fun l n => ?_
  rw [evE] at o
  exact o (m ++ [l]) _ (.ref l) (Stp.grown n) (hr.grown n ⟨_, upd_same, rfl⟩) ⟨l, grown_at hr, rfl⟩
/-! ### comparisons of two readings -/
theorem sc_of {op : CmpOp} {l r : Expr} {σ : L2.St} {H : Hp} {Q : VK} (key : tE X l σ H (fun x H1 => tE X r σ H1 (fun y H2 => tO X (compareOp op) x y H2 Q))) : ∀ pins s, Inv X pins σ H s →
    wpAny (model X.prog X.w) X.A (eval l X.env) (fun v s₁ => wpAny (model X.prog X.w) X.A (eval r X.env) (fun u s₂ => wpAny (model X.prog X.w) X.A (compareOp op v u) (EP X pins σ Q) X.xe s₂) X.xe s₁) X.xe s :=
  fun pins s I => thn (key pins s I) fun v s1 ⟨x, H1, I1, rx, q⟩ => thn (q pins s1 I1) fun u s2 ⟨y, H2, I2, ry, q2⟩ => q2 pins s2 σ v u I2 rx ry
theorem shaped_list {ds : List PyData} (a : PyData.canLayAll0 ds = true) (b : PyData.depthAll ds ≤ 59) : SeqAt.shaped (.list ds) = true := by
  unfold SeqAt.shaped
  rw [show PyData.canLay0 (.list ds) = true by unfold PyData.canLay0; exact a, Bool.true_and, decide_eq_true_eq]
  unfold PyData.depth
  omega
theorem s_eqS (C : Cok G N A T cal k X sc) {b : Bool} {p : CmpOp} {sa sb : Sq} {l r : Expr} (hp : (match p with | .Eq => b | .NotEq => !b | _ => false) = true) (ha : SQ A T X l (evSq T cal sa)) (hb : SQ A T X r (evSq T cal sb)) : SC A T X p l r (evE T cal (.eqS b sa sb)) := by
  intro Wx tk m H σ env h Q hr he o
  rw [evE] at o
  refine sc_of (ha Wx tk m H σ env h _ hr he (Out.bind o fun sv h1 m1 H1 x e1 s1 hr1 r1 o1 => ?_))
  refine hb Wx tk m1 H1 σ env h1 _ hr1 (he.mono s1) (Out.bind o1 fun su h2 m2 H2 y e2 s2 hr2 r2 o2 => ?_)
  obtain ⟨hc, o2⟩ := out_if o2
  simp only [Bool.and_eq_true] at hc
  obtain ⟨⟨hg, hl1⟩, hl2⟩ := hc
  obtain ⟨p1, vs, rfl, hq, rv⟩ := (r1.mono s2).list hr2 hl1 hg
  obtain ⟨p2, us, rfl, hq2, ru⟩ := r2.list hr2 hl2 (evSq_g e2)
  have hu : X.A.units + 64 < cLine := C.room.units
  unfold eqL at o2
  split at o2
  · rename_i c ec
    split at ec
    · rename_i ds es e3 e4
      cases ec
      obtain ⟨a1, a2, a3⟩ := deref_dps hr2 59 _ _ _ e3 rv
      obtain ⟨b1, b2, b3⟩ := deref_dps hr2 59 _ _ _ e4 ru
      have sd : SeqAt.shaped (.list ds) = true := shaped_list a2 a3
      have se : SeqAt.shaped (.list es) = true := shaped_list b2 b3
      cases p <;> first | cases hp | skip
      · exact tO_of (op_eqD hu) ⟨.list ds, .list es, .lst hq a1, .lst hq2 b1, sd, se, by have := out_ok (v := V.bl (PyData.eqvAll ds es == true)) o2 .rfl' hr2 rfl; simpa [PyData.eqv] using this⟩
      · cases b with
        | true => cases hp
        | false =>
          exact tO_of (op_neD hu) ⟨.list ds, .list es, .lst hq a1, .lst hq2 b1, sd, se, by have := out_ok (v := V.bl (PyData.eqvAll ds es == false)) o2 .rfl' hr2 rfl; simpa [PyData.eqv] using this⟩
    · cases ec
  · exact (show False from o2).elim
/-! ### membership -/
section
variable {K : PySem.W.Frag} {m : Mp} {H : Hp}
theorem flat_rel : ∀ {w : W} {v : V}, w.flat = true → RelW K A m H w v → flatV v = true ∧ ∀ (u : W) (z : V), u.flat = true → RelW K A m H u z → eqV z v = eqF u w
  | .non, v, _, r => by rw [(show v = _ from r)]; exact ⟨rfl, fun u z hu ru => by cases u <;> first | (rw [show z = _ from ru]; rfl) | cases hu⟩
  | .bl b, v, _, r => by rw [(show v = _ from r)]; exact ⟨rfl, fun u z hu ru => by cases u <;> first | (rw [show z = _ from ru]; rfl) | cases hu⟩
  | .int b, v, _, r => by rw [(show v = _ from r)]; exact ⟨rfl, fun u z hu ru => by cases u <;> first | (rw [show z = _ from ru]; rfl) | cases hu⟩
  | .str b, v, _, r => by rw [(show v = _ from r)]; exact ⟨rfl, fun u z hu ru => by cases u <;> first | (rw [show z = _ from ru]; rfl) | cases hu⟩
  | .tup _, _, h, _ => nomatch h
  | .ref _, _, h, _ => nomatch h
  | .fn _, _, h, _ => nomatch h
  | .cls _, _, h, _ => nomatch h
  | .exn _ _, _, h, _ => nomatch h
theorem inL_rel {x : W} {v : V} (hx : x.flat = true) (rx : RelW K A m H x v) : ∀ {ys : List W} {vs : List V}, ys.all W.flat = true → RelWs K A m H ys vs → vs.all flatV = true ∧ inV v vs = ys.any fun y => eqF y x
  | [], _, _, r => by rw [(show _ = [] from r)]; exact ⟨rfl, rfl⟩
  | y :: ys, _, h, ⟨z, r, e, rz, rr⟩ => by
    subst e
    rw [List.all_cons, Bool.and_eq_true] at h
    obtain ⟨i1, i2⟩ := inL_rel hx rx h.2 rr
    obtain ⟨f1, _⟩ := flat_rel h.1 rz
    have f2 := (flat_rel hx rx).2 y z h.1 rz
    unfold inV at i2 ⊢
    exact ⟨by rw [List.all_cons, f1, i1]; rfl, by rw [List.any_cons, List.any_cons, f2, i2]⟩
end
theorem v_in (C : Cok G N A T cal k X sc) {b : Bool} {p : CmpOp} (hp : (match p with | .In => b | .NotIn => !b | _ => false) = true) {m : Mp} {H : Hp} {h : Hs} {E : XK} {Q : VK} {x : W} {ys : List W} {v : V} {q : Addr} {vs : List V} {c : Bool} (hr : HRel X.K A m h H) (rx : RelW X.K A m H x v)
    (hq : SqL X.K H q vs ∨ SqT X.K H q vs) (rv : RelWs X.K A m H ys vs) (hi : inL x ys = some c) (o : OutW X.K A T m H (.ok (.bl (c == b)) h) Q E) : tO X (compareOp p) v (.ref q) H Q := by
  unfold inL at hi
  split at hi
  · rename_i hc
    rw [Bool.and_eq_true] at hc
    cases hi
    obtain ⟨i1, i2⟩ := inL_rel hc.1 rx hc.2 rv
    have fx := (flat_rel hc.1 rx).1
    have q0 := out_ok (v := V.bl ((ys.any fun y => eqF y x) == b)) o .rfl' hr rfl
    cases p <;> first | cases hp | skip
    · exact tO_of op_in_seq ⟨q, vs, rfl, hq, fx, i1, by rw [if_neg Bool.false_ne_true, i2]; simpa using q0⟩
    · cases b with
      | true => cases hp
      | false => exact tO_of op_notIn_seq ⟨q, vs, rfl, hq, fx, i1, by rw [if_pos rfl, i2]; simpa using q0⟩
  · cases hi
theorem v_inD (C : Cok G N A T cal k X sc) {b : Bool} {p : CmpOp} (hp : (match p with | .In => b | .NotIn => !b | _ => false) = true) {m : Mp} {H : Hp} {h : Hs} {E : XK} {Q : VK} {x : W} {kvs : List (W × W)} {v : V} {q : Addr} {ks : List (Key × V)} (hr : HRel X.K A m h H) (rx : RelW X.K A m H x v) (hk : x.key = true)
    (hq : Rd H q (.dK ks)) (rv : RelKV X.K A m H kvs ks) (o : OutW X.K A T m H (.ok (.bl ((dGet x kvs).isSome == b)) h) Q E) : tO X (compareOp p) v (.ref q) H Q := by
  intro pins s σ v' u I r1 r2
  cases r2
  obtain ⟨kk, rfl, rfl⟩ := key_rel hk rx
  have g : DGet H q (L2.kV kk) (valV ks kk) := .inl ⟨ks, kk, hq, rfl, rfl⟩
  have e : (valV ks kk).isSome = (dGet (keyW kk) kvs).isSome := by
    cases ed : dGet (keyW kk) kvs with
    | none => rw [(dGet_val rv).2 ed]; rfl
    | some w => obtain ⟨z, e1, _⟩ := (dGet_val rv).1 w ed; rw [e1]; rfl
  have q0 := out_ok (v := V.bl ((dGet (keyW kk) kvs).isSome == b)) o .rfl' hr rfl
  cases p <;> first | cases hp | skip
  · exact d_in (by have := C.room.units; omega) I g r1 fun s' I' => ⟨V.bl _, H, I', rfl, by rw [e]; simpa using q0⟩
  · cases b with
    | true => cases hp
    | false => exact d_notIn (by have := C.room.units; omega) I g r1 fun s' I' => ⟨V.bl _, H, I', rfl, by rw [e]; simpa using q0⟩
theorem s_inV (C : Cok G N A T cal k X sc) {b : Bool} {p : CmpOp} {a d : Ex} {l r : Expr} (hp : (match p with | .In => b | .NotIn => !b | _ => false) = true) (ha : SE A T X l (evE T cal a)) (hb : SE A T X r (evE T cal d)) : SC A T X p l r (evE T cal (.inS b a (.val d))) := by
  intro Wx tk m H σ env h Q hr he o
  rw [evE] at o
  refine sc_of (ha Wx tk m H σ env h _ hr he (Out.bind o fun w1 h1 m1 H1 x e1 s1 hr1 r1 o1 => ?_))
  refine hb Wx tk m1 H1 σ env h1 _ hr1 (he.mono s1) (Out.bind o1 fun w2 h2 m2 H2 y e2 s2 hr2 r2 o2 => ?_)
  obtain ⟨c, ec, o3⟩ := out_optm o2
  have r1' := r1.mono s2
  cases w2 with
  | tup ws =>
    obtain ⟨q, vs, rfl, hq, rv⟩ := rel_tup r2
    exact v_in C hp hr2 r1' (.inr hq) rv ec o3
  | ref n =>
    obtain ⟨q, en, rfl⟩ := rel_ref r2
    have ec : (match h2[n]? with
      | some (.lst ys) => inL w1 ys
      | some (.frz ys) => inL w1 ys
      | some (.dct kvs) => if w1.key then some (dGet w1 kvs).isSome else none
      | some (.fdc kvs) => if w1.key then some (dGet w1 kvs).isSome else none
      | _ => none) = some c := ec
    split at ec
    · rename_i ys eh
      obtain ⟨vs, hq, rv⟩ := hr2.cell _ _ _ eh en
      exact v_in C hp hr2 r1' (.inl (SqL.of hq)) rv ec o3
    · rename_i ys eh
      obtain ⟨ob, vs, hq, rv⟩ := hr2.cell _ _ _ eh en
      exact v_in C hp hr2 r1' (.inl (.inl (.inr ⟨ob, hq⟩))) rv ec o3
    · rename_i kvs eh
      obtain ⟨ks, hq, rv⟩ := hr2.cell _ _ _ eh en
      split at ec
      · rename_i hk
        cases ec
        exact v_inD C hp hr2 r1' hk (.inl hq) rv o3
      · cases ec
    · rename_i kvs eh
      obtain ⟨ob, ks, hq, rv⟩ := hr2.cell _ _ _ eh en
      split at ec
      · rename_i hk
        cases ec
        exact v_inD C hp hr2 r1' hk (.inr ⟨ob, hq⟩) rv o3
      · cases ec
    · cases ec
  | _ => cases ec
theorem s_inL (C : Cok G N A T cal k X sc) {b : Bool} {p : CmpOp} {a : Ex} {d : Le} {l r : Expr} (hp : (match p with | .In => b | .NotIn => !b | _ => false) = true) (ha : SE A T X l (evE T cal a)) (hb : SL A T X r (evL T cal d)) : SC A T X p l r (evE T cal (.inS b a (.fresh d))) := by
  intro Wx tk m H σ env h Q hr he o
  rw [evE] at o
  refine sc_of (ha Wx tk m H σ env h _ hr he (Out.bind o fun w1 h1 m1 H1 x e1 s1 hr1 r1 o1 => ?_))
  refine hb Wx tk m1 H1 σ env h1 _ hr1 (he.mono s1) (Out.bind o1 fun ws h2 m2 H2 y e2 s2 hr2 r2 o2 => ?_)
  obtain ⟨c, ec, o2⟩ := out_optm o2
  obtain ⟨D, vs, rfl, hD, _, _, rv⟩ := r2
  exact v_in C hp hr2 (r1.mono s2) (.inl (SqL.of hD)) rv ec o2
end
end MP
end

section
set_option Elab.async false
set_option linter.all false
set_option maxRecDepth 100000
set_option maxHeartbeats 8000000
/-! MiniPy: methods of built-in types. -/
namespace MP
open PySem PySem.Spec PyProof.Rows L2

section
variable {G : Glo} {N : List Str} {A : Nm} {T : Tab} {cal : Nat → List W → Hs → R W} {k : Nat} {X : Cx} {sc : Scope}
def tM (X : Cx) (id : String) : V → List V → Hp → VK → Prop := fun x xs H Q => ∀ pins s σ v us, Inv X pins σ H s → RelV x v → Vals xs us → wpAny (model X.prog X.w) X.A (call (.builtin id) (v :: us)) (EP X pins σ Q) X.xe s
theorem mt_w {id : String} : MtR X id (tM X id) := fun pins s σ H x xs v us Q I r rs h => h pins s σ v us I r rs
theorem tM_of {id : String} {r : V → List V → Hp → VK → Prop} {x : V} {xs : List V} {H : Hp} {Q : VK} (h : MtR X id r) (q : r x xs H Q) : tM X id x xs H Q := fun pins s σ v us I rx rs => h pins s σ H x xs v us Q I rx rs q
theorem few_m {xs : List Expr} (g : xs.all good = true) (h : xs.length < 20) (pos : Pos) (env : PySem.Env) : ((backTo pos (starEach xs env)).all (fun x => !x.1) && (backToKw pos (keywordEach [] env)).all (fun x => x.1.isSome)
      && decide (xs.length + ([] : List Keyword).length + (if ([] : List Keyword).isEmpty then 0 else 1) < 30)) = true := by
  have st := stars g pos env
  rw [List.any_eq_false] at st
  have s2 : ((backTo pos (starEach xs env)).all fun x => !x.1) = true := by
    rw [List.all_eq_true]
    intro y hy
    have := st y hy
    simpa using this
  rw [s2]
  show (true && true && decide (xs.length + 0 + 0 < 30)) = true
  simp only [Bool.true_and, decide_eq_true_eq]
  omega
def bmT : Bm → String
  | .get | .get2 => "dict"
  | _ => "list"
def bmI : Bm → String
  | .append => "list.append"
  | .get | .get2 => "dict.get"
  | .index => "list.index"
  | _ => "list.pop"
theorem bm_facts {b : Bm} (h : bmOk b = true) : PlainAttrs (bmT b) ∧ Slot (bmT b) (bmN b) (bmI b) ∧ typeOf (.builtin (bmI b)) = pure (.type "method_descriptor") := by
  cases b <;> first | cases h | skip
  · exact ⟨PySem.F.plainAttrs_list, PySem.F.slot_list_append, PySem.F.type_list_append⟩
  · exact ⟨PySem.F.plainAttrs_list, PySem.F.slot_list_pop, PySem.F.type_list_pop⟩
  · exact ⟨PySem.F.plainAttrs_list, PySem.F.slot_list_pop, PySem.F.type_list_pop⟩
  · exact ⟨PySem.F.plainAttrs_list, PySem.F.slot_list_index, PySem.F.type_list_index⟩
  · exact ⟨PySem.F.plainAttrs_dict, PySem.F.slot_dict_get, PySem.F.type_dict_get⟩
  · exact ⟨PySem.F.plainAttrs_dict, PySem.F.slot_dict_get, PySem.F.type_dict_get⟩
theorem RelWs.dropLast {K : PySem.W.Frag} {m : Mp} {H : Hp} {ws : List W} {vs : List V} (r : RelWs K A m H ws vs) : RelWs K A m H ws.dropLast vs.dropLast := by
  rw [List.dropLast_eq_take, List.dropLast_eq_take, r.length]
  exact r.take _
theorem RelWs.eraseIdx {K : PySem.W.Frag} {m : Mp} {H : Hp} {ws : List W} {vs : List V} (i : Nat) (r : RelWs K A m H ws vs) : RelWs K A m H (ws.eraseIdx i) (vs.eraseIdx i) := by
  rw [List.eraseIdx_eq_take_drop_succ, List.eraseIdx_eq_take_drop_succ]
  exact (r.take _).append (r.drop _)
theorem v_bm (C : Cok G N A T cal k X sc) {b : Bm} {m : Mp} {H : Hp} {h : Hs} {E : XK} {Q : VK} {x : W} {ws : List W} {v : V} {vs : List V} (hr : HRel X.K A m h H) (rx : RelW X.K A m H x v) (rv : RelWs X.K A m H ws vs) (o : OutW X.K A T m H (bm2 h b x ws) Q E) : tM X (bmI b) v vs H Q := by
  unfold bm2 at o
  split at o
  · rename_i n w
    obtain ⟨p, e, rfl⟩ := rel_ref rx
    obtain ⟨z, rfl, rz⟩ := rel1 rv
    split at o
    · rename_i xs ec
      obtain ⟨c, o⟩ := out_if o
      obtain ⟨us, hq, ru⟩ := hr.cell _ _ _ ec e
      refine tM_of (r := rAppend) mt_append ⟨p, us, z, rfl, rfl, hq, by rw [sz, ← ru.length]; exact c, ?_⟩
      have s := Stp.wrote (o := .lst (us ++ [z])) e (fun t => (hr.cell _ _ _ ec e).notTup) fun _ _ z => by rw [hq] at z; cases z
      exact o m _ .non s (hr.wrote e ec (fun _ _ z => by rw [hq] at z; cases z) fun s => ⟨_, upd_same, (ru.mono s).append (.cons (rz.mono s) .nil)⟩) rfl
    · exact (show False from o).elim
  · rename_i n
    obtain ⟨p, e, rfl⟩ := rel_ref rx
    rw [(show vs = [] from rv)]
    split at o
    · rename_i xs ec
      obtain ⟨us, hq, ru⟩ := hr.cell _ _ _ ec e
      split at o
      · rename_i y ey
        obtain ⟨z, ez, rz⟩ := ru.get ey
        refine tM_of (r := rPop) mt_pop ⟨p, us, z, rfl, rfl, hq, by rw [← ru.length]; exact ez, ?_⟩
        have s := Stp.wrote (o := .lst us.dropLast) e (fun t => (hr.cell _ _ _ ec e).notTup) fun _ _ z => by rw [hq] at z; cases z
        exact o m _ z s (hr.wrote e ec (fun _ _ z => by rw [hq] at z; cases z) fun s => ⟨_, upd_same, (ru.mono s).dropLast⟩) (rz.mono s)
      · exact (show False from o).elim
    · exact (show False from o).elim
  · rename_i n i
    obtain ⟨p, e, rfl⟩ := rel_ref rx
    obtain ⟨z0, rfl, rz0⟩ := rel1 rv
    rw [(show z0 = V.int i from rz0)]
    split at o
    · rename_i xs ec
      obtain ⟨us, hq, ru⟩ := hr.cell _ _ _ ec e
      obtain ⟨c, o⟩ := out_if o
      unfold okIx at c
      simp only [decide_eq_true_eq] at c
      split at o
      · rename_i j ej
        split at o
        · rename_i y ey
          obtain ⟨z, ez, rz⟩ := ru.get ey
          refine tM_of (r := rPopAt) mt_popAt ⟨p, us, i, j, z, rfl, rfl, hq, by omega, by omega, by rw [← ru.length]; exact (ixN_seq ej).1, ez, ?_⟩
          have s := Stp.wrote (o := .lst (us.eraseIdx j)) e (fun t => (hr.cell _ _ _ ec e).notTup) fun _ _ z => by rw [hq] at z; cases z
          exact o m _ z s (hr.wrote e ec (fun _ _ z => by rw [hq] at z; cases z) fun s => ⟨_, upd_same, (ru.mono s).eraseIdx j⟩) (rz.mono s)
        · exact (show False from o).elim
      · exact (show False from o).elim
    · exact (show False from o).elim
  · rename_i n w
    obtain ⟨p, e, rfl⟩ := rel_ref rx
    obtain ⟨z, rfl, rz⟩ := rel1 rv
    split at o
    · rename_i xs ec
      obtain ⟨us, hq, ru⟩ := hr.cell _ _ _ ec e
      obtain ⟨c, o⟩ := out_if o
      rw [Bool.and_eq_true] at c
      split at o
      · rename_i j ej
        obtain ⟨f1, f2⟩ := flat_rel c.1 rz
        obtain ⟨fl, _⟩ := inL_rel c.1 rz c.2 ru
        obtain ⟨hj, pj, nj⟩ := List.findIdx?_eq_some_iff_getElem.mp ej
        obtain ⟨zj, ez, rzj⟩ := ru.get (List.getElem?_eq_getElem hj)
        refine tM_of (r := rIndex X.K) mt_index ⟨p, us, z, j, zj, rfl, rfl, SqL.of hq, f1, fl, ez, ?_, fun m' z' hm hz' => ?_, out_ok o .rfl' hr rfl⟩
        · rw [f2 _ _ (List.all_eq_true.mp c.2 _ (List.getElem_mem hj)) rzj]; exact pj
        · have hm2 : m' < xs.length := by omega
          obtain ⟨z2, e2, rz2⟩ := ru.get (List.getElem?_eq_getElem hm2)
          rw [e2] at hz'; cases hz'
          rw [f2 _ _ (List.all_eq_true.mp c.2 _ (List.getElem_mem hm2)) rz2]
          simpa using nj m' hm
      · exact (show False from o).elim
    · exact (show False from o).elim
  · rename_i n w
    obtain ⟨p, e, rfl⟩ := rel_ref rx
    obtain ⟨z, rfl, rz⟩ := rel1 rv
    split at o
    · rename_i kvs ec
      obtain ⟨c, o⟩ := out_if o
      obtain ⟨ks, hq, rk⟩ := hr.cell _ _ _ ec e
      obtain ⟨kk, rfl, rfl⟩ := key_rel c rz
      intro pins s σ v us I r1 rs
      cases r1
      obtain ⟨u, rfl, ru⟩ := rs.one
      refine d_get1 (by have := C.room.units; omega) I (.inl ⟨ks, kk, .inl hq, rfl, rfl⟩) ru fun w' s' I' rw' => ⟨_, H, I', rw', ?_⟩
      cases ed : dGet (keyW kk) kvs with
      | none => rw [(dGet_val rk).2 ed]; rw [ed] at o; exact out_ok o .rfl' hr rfl
      | some w => obtain ⟨z, e1, r2⟩ := (dGet_val rk).1 w ed; rw [e1]; rw [ed] at o; exact out_ok o .rfl' hr r2
    · exact (show False from o).elim
  · rename_i n w d
    obtain ⟨p, e, rfl⟩ := rel_ref rx
    obtain ⟨z, z2, rfl, rz, rz2⟩ := rel2 rv
    split at o
    · rename_i kvs ec
      obtain ⟨c, o⟩ := out_if o
      obtain ⟨ks, hq, rk⟩ := hr.cell _ _ _ ec e
      obtain ⟨kk, rfl, rfl⟩ := key_rel c rz
      intro pins s σ v us I r1 rs
      cases r1
      obtain ⟨u, u2, rfl, ru, ru2⟩ := rs.two
      refine d_get2 (by have := C.room.units; omega) I (.inl ⟨ks, kk, .inl hq, rfl, rfl⟩) ru ru2 fun w' s' I' rw' => ⟨_, H, I', rw', ?_⟩
      cases ed : dGet (keyW kk) kvs with
      | none => rw [(dGet_val rk).2 ed]; rw [ed] at o; exact out_ok o .rfl' hr rz2
      | some w => obtain ⟨z, e1, r2⟩ := (dGet_val rk).1 w ed; rw [e1]; rw [ed] at o; exact out_ok o .rfl' hr r2
    · exact (show False from o).elim
  · exact (show False from o).elim
theorem bmK_ty {b : Bm} {m : Mp} {H : Hp} {h : Hs} {x : W} {v : V} (hr : HRel X.K A m h H) (rx : RelW X.K A m H x v) (hk : bmK h b x = true) : tyV X.K (bmT b) v H ∧ bmOk b = true := by
  unfold bmK at hk
  split at hk
  · rename_i n
    obtain ⟨p, e, rfl⟩ := rel_ref rx
    split at hk
    · rename_i xs ec
      obtain ⟨us, hq, ru⟩ := hr.cell _ _ _ ec e
      cases b <;> first | exact ⟨.inl ⟨rfl, us, SqL.of hq⟩, rfl⟩ | cases hk
    · rename_i xs ec
      obtain ⟨us, hq, ru⟩ := hr.cell _ _ _ ec e
      cases b <;> first | exact ⟨.inr (.inr (.inl ⟨rfl, .inl ⟨_, hq⟩⟩)), rfl⟩ | cases hk
    · cases hk
  · cases hk
theorem s_bm (C : Cok G N A T cal k X sc) {b : Bm} (hb : bmOk b = true) {a : Ex} {n : Str} {o : Expr} {ap pos : Pos} {es : Exs} {xs : List Expr} (hn : n = bmN b) (h2 : notC0 o = true) (h3 : (ap.endLine == pos.line) = true) (h4 : xs.length < 20)
    (ha : SE A T X o (evE T cal a)) (al : AllSE A T cal X es xs) : SE A T X (.Call (.Attribute o n ap) xs [] pos) (evE T cal (.bm b a es)) := by
  intro Wx tk m H σ env h Q hr he out
  subst hn
  rw [evE] at out
  have g := al.good
  have sa := s_all al
  obtain ⟨pa, slot, hty⟩ := bm_facts hb
  cases xs with
  | nil =>
    cases es with
    | cons _ _ => exact al.elim
    | nil =>
      refine tE_of (pe_bm0 pa slot hty mt_w pe_w (base_of h2 _ _ _) h3) ?_
      refine ha Wx tk m H σ env h _ hr he (Out.bind out fun w1 h1 m1 H1 x e1 s1 hr1 r1 o1 => ?_)
      obtain ⟨hk, o1⟩ := out_if o1
      exact ⟨(bmK_ty hr1 r1 hk).1, v_bm C hr1 r1 .nil o1⟩
  | cons e ys =>
    rw [List.all_cons, Bool.and_eq_true] at g
    refine tE_of (pe_bm pa slot hty mt_w pe_w pa_w (base_of h2 _ _ _) (few_m (by rw [List.all_cons, g.1, g.2]; rfl) h4 _ _) h3 (star_cons g.1 ys _) (stars g.2 _ _)) ?_
    refine ha Wx tk m H σ env h _ hr he (Out.bind out fun w1 h1 m1 H1 x e1 s1 hr1 r1 o1 => ?_)
    obtain ⟨hk, o1⟩ := out_if o1
    refine ⟨(bmK_ty hr1 r1 hk).1, ?_⟩
    exact sa Wx tk m1 H1 σ env h1 _ hr1 (he.mono s1) (Out.bind o1 fun ws h2 m2 H2 vs e2 s2 hr2 r2 o2 => v_bm C hr2 (r1.mono s2) r2 o2)
end
end MP
end

section
set_option Elab.async false
set_option linter.all false
set_option maxRecDepth 100000
set_option maxHeartbeats 8000000
/-! MiniPy: targets. -/
namespace MP
open PySem PySem.Spec PyProof.Rows L2

section
variable {G : Glo} {N : List Str} {A : Nm} {T : Tab} {cal : Nat → List W → Hs → R W} {k : Nat} {X : Cx} {sc : Scope}
theorem tG_of {e : Expr} {t : TG} {v : V} {σ : L2.St} {H : Hp} {Q : L2.St → Hp → Prop} (h : PG X e t) (q : t v σ H Q) : tG X e v σ H Q := fun pins s u I r => h.run pins s σ H v u Q I r q
def tGs (X : Cx) (ts : List Expr) : TGs := fun vs σ H Q => ∀ pins s us, Inv X pins σ H s → Vals vs us → wpAny (model X.prog X.w) X.A (assignInOrder ((assignEach ts X.env).map (·.2)) us) (fun _ s' => ∃ σ' H', Inv X pins σ' H' s' ∧ Q σ' H') X.xe s
theorem pgs_w {ts : List Expr} : PGs X ts (tGs X ts) := ⟨fun pins s _ _ _ us _ I r h => h pins s us I r⟩
theorem tGs_of {ts : List Expr} {t : TGs} {vs : List V} {σ : L2.St} {H : Hp} {Q : L2.St → Hp → Prop} (h : PGs X ts t) (q : t vs σ H Q) : tGs X ts vs σ H Q := fun pins s us I r => h.run pins s σ H vs us Q I r q
def tgIx : Tg → List Nat
  | .name i => [i]
  | .nil => []
  | .cons t r => tgIx t ++ tgIx r
theorem not_star {t : Tg} {e : Expr} (h : trT N sc t e = true) (es : List Expr) (env : PySem.Env) : assignEach (e :: es) env = (false, assign e env) :: assignEach es env := by
  cases t with
  | name i => cases e <;> first | rfl | (simp [trT, trTg] at h)
  | nil => cases e <;> first | rfl | (simp [trT] at h)
  | cons a b => cases e <;> first | rfl | (simp [trT] at h)
theorem trTs_len (env : PySem.Env) : ∀ (t : Tg) (es : List Expr), trTs N sc t es = true → (assignEach es env).length = es.length ∧ (assignEach es env).findIdx? (·.1) = none
  | .nil, [], _ => ⟨rfl, rfl⟩
  | .nil, _ :: _, h => by simp [trTs] at h
  | .name _, [], h => by simp [trTs] at h
  | .name _, _ :: _, h => by simp [trTs] at h
  | .cons t r, [], h => by simp [trTs] at h
  | .cons t r, e :: es, h => by
    rw [trTs, Bool.and_eq_true] at h
    obtain ⟨i1, i2⟩ := trTs_len env r es h.2
    rw [not_star h.1]
    refine ⟨by rw [List.length_cons, List.length_cons, i1], ?_⟩
    rw [List.findIdx?_cons]
    simp [i2]
theorem asg_len {h : Hs} : ∀ (t : Tg) (es : List Expr) (ws : List W) (env e1 : Env), trTs N sc t es = true → asgTg h t (.tup ws) env = some e1 → ws.length = es.length
  | .nil, [], ws, env, e1, _, e => by
    cases ws with
    | nil => rfl
    | cons _ _ => simp [asgTg, unTup] at e
  | .nil, _ :: _, _, _, _, h, _ => by simp [trTs] at h
  | .name _, [], _, _, _, h, _ => by simp [trTs] at h
  | .name _, _ :: _, _, _, _, h, _ => by simp [trTs] at h
  | .cons t r, [], _, _, _, h, _ => by simp [trTs] at h
  | .cons t r, e :: es, ws, env, e1, h, ea => by
    rw [trTs, Bool.and_eq_true] at h
    cases ws with
    | nil => simp [asgTg, unTup] at ea
    | cons w ws =>
      simp only [asgTg, unTup] at ea
      obtain ⟨e2, _, e3⟩ := Option.bind_eq_some_iff.mp ea
      rw [List.length_cons, List.length_cons, asg_len r es ws e2 e1 h.2 e3]
theorem wipe_set {σ : L2.St} {i : Nat} {x : Option V} : ∀ {vs : List Nat}, i ∈ vs → wipe (σ.set i x) vs = wipe σ vs
  | [], h => by cases h
  | v :: vs, h => by
    have e1 : wipe (σ.set i x) (v :: vs) = (wipe (σ.set i x) vs).set v none := rfl
    have e2 : wipe σ (v :: vs) = (wipe σ vs).set v none := rfl
    rw [e1, e2]
    by_cases hv : i ∈ vs
    · rw [wipe_set hv]
    · have hi : i = v := by
        rcases List.mem_cons.mp h with q | q
        · exact q
        · exact absurd q hv
      subst hi
      have : ∀ us : List Nat, i ∉ us → wipe (σ.set i x) us = (wipe σ us).set i x := by
        intro us
        induction us with
        | nil => intro _; rfl
        | cons u us ih =>
          intro hu
          have e1 : wipe (σ.set i x) (u :: us) = (wipe (σ.set i x) us).set u none := rfl
          have e2 : wipe σ (u :: us) = (wipe σ us).set u none := rfl
          rw [e1, e2, ih (fun q => hu (List.mem_cons_of_mem _ q)), List.set_comm]
          exact fun q => hu (q ▸ List.mem_cons_self)
      rw [this vs hv, List.set_set]
theorem envR_set {K : PySem.W.Frag} {m : Mp} {H : Hp} {env : Env} {σ : L2.St} {i : Nat} {w : W} {v : V} (he : EnvR K A m H env σ) (r : RelW K A m H w v) : EnvR K A m H (env.set i (some w)) (σ.set i (some v)) := by
  refine ⟨by rw [List.length_set, List.length_set]; exact he.1, fun j u e => ?_⟩
  by_cases hj : j = i
  · subst hj
    have lt := getE_lt e
    rw [List.length_set] at lt
    rw [List.getElem?_set_self lt] at e
    cases e
    exact ⟨v, by rw [List.getElem?_set_self (by rw [← he.1]; exact lt)], r⟩
  · rw [List.getElem?_set_ne (Ne.symm hj)] at e
    obtain ⟨u2, e2, r2⟩ := he.2 j u e
    exact ⟨u2, by rw [List.getElem?_set_ne (Ne.symm hj)]; exact e2, r2⟩
theorem tgs_cons {t : Tg} {e : Expr} {es : List Expr} {v : V} {vs : List V} {σ : L2.St} {H : Hp} {Q : L2.St → Hp → Prop} (h : trT N sc t e = true) (q : tG X e v σ H (fun σ1 H1 => tGs X es vs σ1 H1 Q)) : tGs X (e :: es) (v :: vs) σ H Q :=
  tGs_of (pgs_cons pg_w pgs_w (by rw [not_star h]; rfl)) ⟨v, vs, rfl, q⟩
theorem tup_target (C : Cok G N A T cal k X sc) {t : Tg} {es : List Expr} {n : Nat} {pos : Pos} {m : Mp} {H : Hp} {h : Hs} {σ : L2.St} {env e1 : Env} {w : W} {ws : List W} {v : V} {Q : L2.St → Hp → Prop} (ht : trTs N sc t es = true) (hr : HRel X.K A m h H) (r : RelW X.K A m H w v) (hw : unTup h w = some ws)
    (ea : asgTg h t (.tup ws) env = some e1) (q : ∀ vs, RelWs X.K A m H ws vs → tGs X es vs σ H Q) : tG X (.Tuple es n pos) v σ H Q := by
  obtain ⟨l1, l2⟩ := trTs_len X.env t es ht
  have l3 := asg_len t es ws env e1 ht ea
  cases w with
  | tup us =>
    cases hw
    obtain ⟨p, vs, rfl, hq, rv⟩ := rel_tup r
    exact tG_of (pg_tup C.calm pgs_w l1 l2) ⟨p, vs, rfl, hq, by rw [← rv.length, l3], q vs rv⟩
  | ref i =>
    obtain ⟨p, e, rfl⟩ := rel_ref r
    have hw : (match h[i]? with | some (.lst xs) => some xs | _ => none) = some ws := hw
    split at hw
    · rename_i xs ec
      cases hw
      obtain ⟨vs, hq, rv⟩ := hr.cell _ _ _ ec e
      exact tG_of (pg_unl C.calm pgs_w l1 l2) ⟨p, vs, rfl, SqL.of hq, by rw [← rv.length, l3], q vs rv⟩
    · cases hw
  | _ => cases hw
mutual
theorem s_tg (C : Cok G N A T cal k X sc) : ∀ (t : Tg) (e : Expr), trT N sc t e = true → ∀ (m : Mp) (H : Hp) (σ : L2.St) (env : Env) (h : Hs) (w : W) (v : V) (e1 : Env) (Q : L2.St → Hp → Prop), HRel X.K A m h H → EnvR X.K A m H env σ → RelW X.K A m H w v → asgTg h t w env = some e1 →
    (∀ σ', EnvR X.K A m H e1 σ' → (∀ vs, (∀ i ∈ tgIx t, i ∈ vs) → wipe σ' vs = wipe σ vs) → Q σ' H) → tG X e v σ H Q
  | .name i, e, ht, m, H, σ, env, h, w, v, e1, Q, hr, he, r, ea, q => by
    cases e with
    | Name x pos =>
      simp only [trT, trTg, Bool.and_eq_true, decide_eq_true_eq] at ht
      obtain ⟨s1, s2⟩ := C.st x ht.2
      simp only [asgTg] at ea
      split at ea
      · cases ea
        exact tG_of (pg_name (i := i) (by rw [C.hN]; exact C.nd) (by rw [C.hN]; exact ht.1) s1 s2) (q _ (envR_set he r) fun vs hv => wipe_set (hv i (by simp [tgIx])))
      · cases ea
    | _ => simp [trT, trTg] at ht
  | .nil, e, ht, m, H, σ, env, h, w, v, e1, Q, hr, he, r, ea, q => by
    cases e with
    | Tuple es n pos =>
      cases es with
      | cons _ _ => simp [trT] at ht
      | nil =>
        simp only [asgTg] at ea
        split at ea
        · rename_i hw
          cases ea
          refine tup_target C (t := .nil) (es := []) (env := env) (e1 := env) rfl hr r hw rfl fun vs rv => ?_
          rw [(show vs = [] from rv)]
          exact tGs_of pgs_nil ⟨rfl, q σ he fun _ _ => rfl⟩
        · cases ea
    | _ => simp [trT] at ht
  | .cons t r, e, ht, m, H, σ, env, h, w, v, e1, Q, hr, he, rw', ea, q => by
    cases e with
    | Tuple es n pos =>
      cases es with
      | nil => simp [trT] at ht
      | cons e es =>
        have ht : (trT N sc t e && trTs N sc r es) = true := by simpa [trT] using ht
        rw [Bool.and_eq_true] at ht
        simp only [asgTg] at ea
        split at ea
        · rename_i w0 ws hw
          refine tup_target C (t := .cons t r) (es := e :: es) (env := env) (e1 := e1) (by rw [trTs, ht.1, ht.2]; rfl) hr rw' hw (by simp only [asgTg, unTup]; exact ea) fun vs rv => ?_
          obtain ⟨v0, vs0, rfl, r0, rr⟩ := rv
          obtain ⟨e2, ea1, ea2⟩ := Option.bind_eq_some_iff.mp ea
          refine tgs_cons ht.1 (s_tg C t e ht.1 m H σ env h w0 v0 e2 _ hr he r0 ea1 fun σ1 he1 hw1 => ?_)
          exact s_tgs C r es ht.2 m H σ1 e2 h ws vs0 e1 Q hr he1 rr ea2 fun σ2 he2 hw2 => q σ2 he2 fun us hu => by
            rw [hw2 us (fun i hi => hu i (by simp [tgIx, hi])), hw1 us (fun i hi => hu i (by simp [tgIx, hi]))]
        · cases ea
    | _ => simp [trT] at ht
theorem s_tgs (C : Cok G N A T cal k X sc) : ∀ (t : Tg) (es : List Expr), trTs N sc t es = true → ∀ (m : Mp) (H : Hp) (σ : L2.St) (env : Env) (h : Hs) (ws : List W) (vs : List V) (e1 : Env) (Q : L2.St → Hp → Prop), HRel X.K A m h H → EnvR X.K A m H env σ → RelWs X.K A m H ws vs → asgTg h t (.tup ws) env = some e1 →
    (∀ σ', EnvR X.K A m H e1 σ' → (∀ vs, (∀ i ∈ tgIx t, i ∈ vs) → wipe σ' vs = wipe σ vs) → Q σ' H) → tGs X es vs σ H Q
  | .name i, es, ht, _, _, _, _, _, _, _, _, _, _, _, _, _, _ => by cases es <;> simp [trTs] at ht
  | .nil, es, ht, m, H, σ, env, h, ws, vs, e1, Q, hr, he, rv, ea, q => by
    cases es with
    | cons _ _ => simp [trTs] at ht
    | nil =>
      cases ws with
      | cons _ _ => simp [asgTg, unTup] at ea
      | nil =>
        simp [asgTg, unTup] at ea
        subst ea
        rw [(show vs = [] from rv)]
        exact tGs_of pgs_nil ⟨rfl, q σ he fun _ _ => rfl⟩
  | .cons t r, es, ht, m, H, σ, env, h, ws, vs, e1, Q, hr, he, rv, ea, q => by
    cases es with
    | nil => simp [trTs] at ht
    | cons e es =>
      rw [trTs, Bool.and_eq_true] at ht
      cases ws with
      | nil => simp [asgTg, unTup] at ea
      | cons w0 ws =>
        simp only [asgTg, unTup] at ea
        obtain ⟨v0, vs0, rfl, r0, rr⟩ := rv
        obtain ⟨e2, ea1, ea2⟩ := Option.bind_eq_some_iff.mp ea
        refine tgs_cons ht.1 (s_tg C t e ht.1 m H σ env h w0 v0 e2 _ hr he r0 ea1 fun σ1 he1 hw1 => ?_)
        exact s_tgs C r es ht.2 m H σ1 e2 h ws vs0 e1 Q hr he1 rr ea2 fun σ2 he2 hw2 => q σ2 he2 fun us hu => by
          rw [hw2 us (fun i hi => hu i (by simp [tgIx, hi])), hw1 us (fun i hi => hu i (by simp [tgIx, hi]))]
end
end
end MP
end

section
set_option Elab.async false
set_option linter.all false
set_option maxRecDepth 100000
set_option maxHeartbeats 8000000
/-! MiniPy: what is walked. -/
namespace MP
open PySem PySem.Spec PyProof.Rows L2

/-- an iterator that gives a sequence's items -/
def RelI (A : Nm) (K : PySem.W.Frag) (m : Mp) (H : Hp) (sv : Sv) (J : It) : Prop := ∃ G Y, Walk J sv.items.length G Y ∧ ∀ m' h' H', Stp m H m' H' → HRel K A m' h' H' → gOk sv.g h' = true →
  G H' ∧ ∀ i x H'', i < sv.items.length → Y i H' x H'' → ∃ w, sv.items[i]? = some w ∧ Stp m' H' m' H'' ∧ HRel K A m' h' H'' ∧ RelW K A m' H'' w x
section
variable {G : Glo} {N : List Str} {A : Nm} {T : Tab} {cal : Nat → List W → Hs → R W} {k : Nat} {X : Cx} {sc : Scope}
def SR (A : Nm) (T : Tab) (X : Cx) (tg e : Expr) (ev : Env → Hs → R Sv) : Prop := ∀ (Wx : WX), Takes X Wx → ∀ m H σ env h (Q : It → Hp → Prop), HRel X.K A m h H → EnvR X.K A m H env σ →
  Out X.K A T (RelI A X.K) m H (ev env h) Q (fun c d H' => Wx c d σ H') → tI X tg e σ H Q
section
variable {pins : List (Addr × Obj)} {σ : L2.St} {H : Hp} {s : Shared} {tg : Expr} {R : It → Hp → Prop}
theorem it_list {a : Addr} {xs : List V} (I : Inv X pins σ H s) (hq : SqL X.K H a xs) (q : R (Itl X.K a) H) : wpAny (model X.prog X.w) X.A (pyIter (.ref a)) (PIE X pins σ tg R) X.xe s := by
  obtain ⟨its, rv, p, hz⟩ := I.list hq
  refine wpAny_pyIter_list p.isList ?_
  refine ⟨s.heap.objs.size, [s.heap.objs.size], _, _, H, rfl, I.kept (t' := s.toks) fun b o e => Heap.get?_push_of_some _ e, turn_list a _, ⟨_, Heap.get?_push_size _ rfl, rfl, rfl⟩, fun b hb => ?_, q⟩
  have e : b = s.heap.objs.size := by simpa using hb
  subst e
  exact I.fpOk (Nat.le_refl _) (I.hok.fresh (Nat.le_refl _))
theorem it_tup {a : Addr} {xs : List V} (I : Inv X pins σ H s) (hq : SqT X.K H a xs) (q : R (Itt X.K a) H) : wpAny (model X.prog X.w) X.A (pyIter (.ref a)) (PIE X pins σ tg R) X.xe s := by
  obtain ⟨its, rv, p, hz⟩ := I.tuple hq
  refine wpAny_pyIter_tuple (show s.heap.IsTuple a its.toArray from p) ?_
  refine ⟨s.heap.objs.size, [s.heap.objs.size], _, _, H, rfl, I.kept (t' := s.toks) fun b o e => Heap.get?_push_of_some _ e, turn_tuple a _, ⟨_, Heap.get?_push_size _ rfl, rfl, rfl⟩, fun b hb => ?_, q⟩
  have e : b = s.heap.objs.size := by simpa using hb
  subst e
  exact I.fpOk (Nat.le_refl _) (I.hok.fresh (Nat.le_refl _))
theorem it_str {x : Str} {t : Tok} (I : Inv X pins σ H s) (q : R (Its x) H) : wpAny (model X.prog X.w) X.A (pyIter (.str x t)) (PIE X pins σ tg R) X.xe s := by
  cases ha : x.cps.all (· < 128)
  · exact wpAny_pyIter_wide ha (pi_one (tk := s.toks) I _ (turn_str _ x t "str_iterator" (.inr rfl)) ⟨_, Heap.get?_push_size _ rfl, rfl, rfl⟩ q)
  · exact wpAny_pyIter_ascii ha (pi_one (tk := s.toks) I _ (turn_str _ x t "str_ascii_iterator" (.inl rfl)) ⟨_, Heap.get?_push_size _ rfl, rfl, rfl⟩ q)
theorem it_keys {d : Addr} {o : Obj} {kvs : List (Key × V)} (I : Inv X pins σ H s) (hd : H d = some (.frz o (.dK kvs))) (q : R (Itk d o kvs) H) : wpAny (model X.prog X.w) X.A (pyIter (.ref d)) (PIE X pins σ tg R) X.xe s := by
  obtain ⟨hs, hgd, hx, es, ep, vs, hdt, hsz, kv, hm⟩ := I.frzK hd
  refine iter_keys hs hgd hx hdt (pi_one (tk := s.toks) I _ (turn_keys _ hdt) ⟨_, Heap.get?_push_size _ rfl, rfl, ?_⟩ q)
  rw [hsz] <;> rfl
end
/-- the walks, whatever the content is called -/
theorem walk_l {K : PySem.W.Frag} {a : Addr} {n : Nat} : Walk (Itl K a) n (fun H => ∃ vs, SqL K H a vs ∧ vs.length = n) (fun i H x H' => H' = H ∧ ∀ vs, SqL K H a vs → vs[i]? = some x) :=
  ⟨fun i H hi ⟨vs, q, e⟩ => ⟨vs, vs[i]'(by omega), q, by simp [show i < vs.length by omega]⟩, fun H ⟨vs, q, e⟩ => ⟨vs, q, by omega⟩, fun _ _ _ _ _ _ y => y⟩
theorem RelWs.at {K : PySem.W.Frag} {m : Mp} {H : Hp} {ws : List W} {vs : List V} {i : Nat} {x : V} (r : RelWs K A m H ws vs) (e : vs[i]? = some x) : ∃ w, ws[i]? = some w ∧ RelW K A m H w x := by
  have lt : i < ws.length := by rw [r.length]; exact getE_lt e
  obtain ⟨v, e1, r1⟩ := r.get (List.getElem?_eq_getElem lt)
  rw [e] at e1; cases e1
  exact ⟨_, List.getElem?_eq_getElem lt, r1⟩
theorem relI_list {K : PySem.W.Frag} {H0 H : Hp} {m : Mp} {sv : Sv} {a : Addr} (r : RelQ A K H0 m H sv (.ref a)) (hl : sv.l = true) : RelI A K m H sv (Itl K a) := by
  refine ⟨_, _, walk_l, fun m' h' H' s hr hg => ?_⟩
  obtain ⟨p, vs, e, hq, rv⟩ := (r.mono s).list hr hl hg
  cases e
  refine ⟨⟨vs, hq, rv.length.symm⟩, fun i x H'' hi y => ?_⟩
  obtain ⟨rfl, y⟩ := y
  obtain ⟨w, e1, r1⟩ := rv.at (y vs hq)
  exact ⟨w, e1, .rfl', hr, r1⟩
theorem relI_tup {K : PySem.W.Frag} {H : Hp} {m : Mp} {ws : List W} {vs : List V} {a : Addr} (hq : SqT K H a vs) (rv : RelWs K A m H ws vs) : RelI A K m H ⟨ws, none, false⟩ (Itt K a) := by
  have wk : Walk (Itt K a) ws.length (fun H => SqT K H a vs) (YAt vs) := by rw [rv.length]; exact walk_tup
  refine ⟨_, _, wk, fun m' h' H' s hr hg => ⟨sqT_stp s hq, fun i x H'' hi y => ?_⟩⟩
  obtain ⟨rfl, y⟩ := y
  obtain ⟨w, e1, r1⟩ := (rv.mono s).at y
  exact ⟨w, e1, .rfl', hr, r1⟩
theorem relI_str {K : PySem.W.Frag} {H : Hp} {m : Mp} {z : Str} : RelI A K m H ⟨z.cps.toList.map fun c => .str ⟨#[c]⟩, none, false⟩ (Its z) := by
  have wk : Walk (Its z) (z.cps.toList.map fun c => W.str ⟨#[c]⟩).length (fun _ => True) (fun i H v H' => H' = H ∧ ∃ c, z.cps[i]? = some c ∧ v = .str ⟨#[c]⟩) := by rw [List.length_map, Array.length_toList]; exact walk_str
  refine ⟨_, _, wk, fun m' h' H' s hr hg => ⟨trivial, fun i x H'' hi y => ?_⟩⟩
  obtain ⟨rfl, c, e, rfl⟩ := y
  exact ⟨.str ⟨#[c]⟩, by rw [List.getElem?_map, Array.getElem?_toList, e]; rfl, .rfl', hr, rfl⟩
theorem relKV_at {K : PySem.W.Frag} {m : Mp} {H : Hp} : ∀ {kvs : List (W × W)} {ks : List (Key × V)} {i : Nat} {k : Key} {v : V}, RelKV K A m H kvs ks → ks[i]? = some (k, v) → ∃ w, kvs[i]? = some (keyW k, w) ∧ RelW K A m H w v
  | [], _, i, _, _, e, h => by rw [(show _ = [] from e)] at h; simp at h
  | (a, u) :: r, _, 0, k, v, ⟨k', v', ks, e, ek, rv, t⟩, h => by
    subst e
    have ek' : a = keyW k' := ek
    subst ek'
    simp at h
    obtain ⟨rfl, rfl⟩ := h
    exact ⟨u, rfl, rv⟩
  | (a, u) :: r, _, i + 1, k, v, ⟨k', v', ks, e, ek, rv, t⟩, h => by
    subst e
    simp at h
    obtain ⟨w, e1, r1⟩ := relKV_at t h
    exact ⟨w, by simpa using e1, r1⟩
theorem keyW_rel {K : PySem.W.Frag} {m : Mp} {H : Hp} : ∀ k : Key, RelW K A m H (keyW k) (L2.kV k)
  | .inl _ => rfl
  | .inr _ => rfl
theorem relI_keys {K : PySem.W.Frag} {H : Hp} {m : Mp} {kvs : List (W × W)} {ks : List (Key × V)} {o : Obj} {d : Addr} {g : Option (Nat × Cell)} {b : Bool} (hd : H d = some (.frz o (.dK ks))) (rk : RelKV K A m H kvs ks) : RelI A K m H ⟨kvs.map (·.1), g, b⟩ (Itk d o ks) := by
  have wk : Walk (Itk d o ks) (kvs.map (·.1)).length (fun H => H d = some (.frz o (.dK ks))) (fun i H x H' => H' = H ∧ ∃ k v, ks[i]? = some (k, v) ∧ x = L2.kV k) := by rw [List.length_map, ← relKV_len rk]; exact walk_keys
  refine ⟨_, _, wk, fun m' h' H' s hr hg => ⟨s.fz _ _ _ hd, fun i x H'' hi y => ?_⟩⟩
  obtain ⟨rfl, k, v, e, rfl⟩ := y
  obtain ⟨w, e1, _⟩ := relKV_at (rk.mono s) e
  exact ⟨keyW k, by rw [List.getElem?_map, e1]; rfl, .rfl', hr, keyW_rel k⟩
/-- a sequence -/
theorem s_rseq {tg e : Expr} {s : Sq} (sq : SQ A T X e (evSq T cal s)) : SR A T X tg e (evSr T cal (.seq s)) := by
  intro Wx tk m H σ env h Q hr he o
  rw [evSr] at o
  have key := sq Wx tk m H σ env h (fun x H1 => ∀ pins s v, Inv X pins σ H1 s → RelV x v → wpAny (model X.prog X.w) X.A (pyIter v) (PIE X pins σ tg Q) X.xe s) hr he ?_
  · intro pins s I
    exact thn (key pins s I) fun v s1 ⟨x, H1, I1, rx, q⟩ => q pins s1 v I1 rx
  · cases er : evSq T cal s env h with
    | stuck => rw [er] at o; exact o
    | raise c vs h1 => rw [er] at o; exact o
    | ok sv h1 =>
      rw [er] at o
      intro m1 H1 v s1 hr1 r1 pins s u I ru
      have fin : ∀ J, RelI A X.K m1 H1 sv J → Q J H1 := fun J rj => o m1 H1 J s1 hr1 rj
      have hg := evSq_g er
      by_cases hl : sv.l = true
      · obtain ⟨p, vs, rfl, hq, rv⟩ := r1.list hr1 hl hg
        cases ru
        exact it_list I hq (fin _ (relI_list r1 hl))
      · rcases r1 with ⟨_, _, z⟩ | ⟨w, rw', z⟩
        · exact absurd z hl
        · cases w with
          | tup ws =>
            rw [(show sv = _ from z)] at fin
            obtain ⟨p, vs, rfl, hq, rv⟩ := rel_tup rw'
            cases ru
            exact it_tup I hq (fin _ (relI_tup hq rv))
          | str x =>
            rw [(show sv = _ from z)] at fin
            rw [(show v = V.str x from rw')] at ru
            obtain ⟨t, rfl⟩ := ru
            exact it_str I (fin _ relI_str)
          | ref n =>
            obtain ⟨p, e, rfl⟩ := rel_ref rw'
            obtain ⟨c, eg, z⟩ := (show ∃ c, _ from z)
            rcases z with ⟨_, z⟩ | ⟨_, z⟩ | ⟨kvs, rfl, ei, _⟩
            · exact absurd z hl
            · exact absurd z hl
            · rw [eg] at hg
              have ec : h1[n]? = some (.fdc kvs) := of_decide_eq_true hg
              obtain ⟨ob, ks, hd, rk⟩ := hr1.cell _ _ _ ec e
              cases ru
              refine it_keys I hd (fin _ ?_)
              have : sv = ⟨kvs.map (·.1), sv.g, sv.l⟩ := by cases sv; simp at ei ⊢; exact ei
              rw [this]
              exact relI_keys hd rk
          | _ => exact (show False from z).elim
/-! ### ranges -/
theorem rngL_len (lo : Int) : ∀ n, (rngL lo n).length = n
  | 0 => rfl
  | n + 1 => by rw [rngL, List.length_cons, rngL_len]
theorem rngL_at : ∀ (n : Nat) (lo : Int) (i : Nat), i < n → (rngL lo n)[i]? = some (.int (lo + i))
  | 0, _, _, h => by omega
  | n + 1, lo, 0, _ => by simp [rngL]
  | n + 1, lo, i + 1, h => by
    rw [rngL, List.getElem?_cons_succ, rngL_at n (lo + 1) i (by omega)]
    congr 2
    omega
theorem relI_rng {K : PySem.W.Frag} {H : Hp} {m : Mp} {lo : Int} {n : Nat} {g : Option (Nat × Cell)} {b : Bool} : RelI A K m H ⟨rngL lo n, g, b⟩ (Itr lo n) := by
  have wk : Walk (Itr lo n) (rngL lo n).length (fun _ => True) (YFn fun i => .int (lo + i)) := by rw [rngL_len]; exact walk_range
  refine ⟨_, _, wk, fun m' h' H' s hr hg => ⟨trivial, fun i x H'' hi y => ?_⟩⟩
  obtain ⟨rfl, rfl⟩ := y
  rw [rngL_len] at hi
  exact ⟨_, rngL_at n lo i hi, .rfl', hr, rfl⟩
theorem s_rng1 (C : Cok G N A T cal k X sc) {tg : Expr} {x : Str} {p pos : Pos} {e : Ex} {a : Expr} (h1 : nmB G sc x "range" = true) (g : good a = true) (se : SE A T X a (evE T cal e)) : SR A T X tg (.Call (.Name x p) [a] [] pos) (evSr T cal (.rng (.cons e .nil))) := by
  intro Wx tk m H σ env h Q hr he o
  obtain ⟨rfl, g1, g2, hm, hn⟩ := nmB_gl C h1
  refine tI_of (pi_range1 g1 hm (pa_cons pe_w pa_nil (star_cons g [] _)) (star_cons g [] _)) ?_
  rw [evSr] at o
  have o : Out X.K A T (RelI A X.K) m H ((evE T cal e env h).bind fun w h1 => rngOf h1 [w]) Q (fun c d H' => Wx c d σ H') := by
    simp only [evEs] at o
    cases er : evE T cal e env h with
    | ok w h1 => rw [er] at o; exact o
    | raise c vs h1 => rw [er] at o; exact o
    | stuck => rw [er] at o; exact o
  refine se Wx tk m H σ env h _ hr he (Out.bind o fun w h1 m1 H1 v e1 s1 hr1 r1 o1 => ?_)
  cases w with
  | int n =>
    have o1 : Out X.K A T (RelI A X.K) m1 H1 (if okIx n ∧ n.toNat ≤ SZ then R.ok (Sv.mk (rngL 0 n.toNat) none false) h1 else .stuck) Q (fun c d H' => Wx c d σ H') := o1
    obtain ⟨⟨c1, c2⟩, o1⟩ := out_if o1
    simp only [okIx, decide_eq_true_eq] at c1
    exact ⟨n, by rw [(show v = V.int n from r1)], by omega, by omega, o1 m1 H1 _ .rfl' hr1 relI_rng⟩
  | _ => exact (show False from o1).elim
theorem s_rng2 (C : Cok G N A T cal k X sc) {tg : Expr} {x : Str} {p pos : Pos} {e f : Ex} {a b : Expr} (h1 : nmB G sc x "range" = true) (ga : good a = true) (gb : good b = true) (se : SE A T X a (evE T cal e)) (sf : SE A T X b (evE T cal f)) :
    SR A T X tg (.Call (.Name x p) [a, b] [] pos) (evSr T cal (.rng (.cons e (.cons f .nil)))) := by
  intro Wx tk m H σ env h Q hr he o
  obtain ⟨rfl, g1, g2, hm, hn⟩ := nmB_gl C h1
  refine tI_of (pi_range2 g1 hm (pa_cons pe_w (pa_cons pe_w pa_nil (star_cons gb [] _)) (star_cons ga [b] _)) (by rw [star_cons ga [b], star_cons gb []]; rfl) (star_cons gb [] _)) ?_
  rw [evSr] at o
  have o : Out X.K A T (RelI A X.K) m H ((evE T cal e env h).bind fun w h1 => (evE T cal f env h1).bind fun u h2 => rngOf h2 [w, u]) Q (fun c d H' => Wx c d σ H') := by
    simp only [evEs] at o
    cases er : evE T cal e env h with
    | ok w h1 =>
      rw [er, bind_ok] at o
      rw [bind_ok]
      cases er2 : evE T cal f env h1 with
      | ok u h2 => rw [er2] at o; exact o
      | raise c vs h1 => rw [er2] at o; exact o
      | stuck => rw [er2] at o; exact o
    | raise c vs h1 => rw [er] at o; exact o
    | stuck => rw [er] at o; exact o
  refine se Wx tk m H σ env h _ hr he (Out.bind o fun w h1 m1 H1 v e1 s1 hr1 r1 o1 => ?_)
  refine sf Wx tk m1 H1 σ env h1 _ hr1 (he.mono s1) (Out.bind o1 fun u h2 m2 H2 v2 e2 s2 hr2 r2 o2 => ?_)
  cases w with
  | int n =>
    cases u with
    | int n2 =>
      have o2 : Out X.K A T (RelI A X.K) m2 H2 (if okIx n ∧ okIx n2 ∧ (n2 - n).toNat ≤ SZ then R.ok (Sv.mk (rngL n (n2 - n).toNat) none false) h2 else .stuck) Q (fun c d H' => Wx c d σ H') := o2
      obtain ⟨⟨c1, c2, c3⟩, o2⟩ := out_if o2
      simp only [okIx, decide_eq_true_eq] at c1 c2
      exact ⟨n, n2, by rw [(show v = V.int n from r1), (show v2 = V.int n2 from r2)], ⟨by omega, by omega, by omega, by omega⟩, o2 m2 H2 _ .rfl' hr2 relI_rng⟩
    | _ => exact (show False from o2).elim
  | _ => cases u <;> exact (show False from o2).elim
end
end MP
end

section
set_option Elab.async false
set_option linter.all false
set_option maxRecDepth 100000
set_option maxHeartbeats 8000000
/-! MiniPy: comprehensions. -/
namespace MP
open PySem PySem.Spec PyProof.Rows L2

/-! ### a list beside the map grows -/
section
variable {K : PySem.W.Frag} {A : Nm} {m m' : Mp} {H H' : Hp}
mutual
theorem relW_up (tp : ∀ a vs, Rd H a (.tup vs) → Rd H' a (.tup vs)) : ∀ (w : W) (v : V), RelW K A m H w v → RelW K A m H' w v
  | .non, _, h => h
  | .bl _, _, h => h
  | .int _, _, h => h
  | .str _, _, h => h
  | .tup ws, _, h => by
    obtain ⟨a, vs, e, q, r⟩ := rel_tup h
    refine ⟨a, vs, e, ?_, relWs_up tp ws vs r⟩
    rcases q with q | q
    · exact .inl (tp a vs q)
    · exact .inr q
  | .ref r, _, h => h
  | .fn _, _, h => h
  | .cls _, _, h => h
  | .exn _ _, _, h => h
theorem relWs_up (tp : ∀ a vs, Rd H a (.tup vs) → Rd H' a (.tup vs)) : ∀ (ws : List W) (vs : List V), RelWs K A m H ws vs → RelWs K A m H' ws vs
  | [], _, h => h
  | w :: ws, _, h => by
    obtain ⟨v, r, e, q, z⟩ := (show ∃ v r, _ = v :: r ∧ RelW K A m H w v ∧ RelWs K A m H ws r from h)
    exact ⟨v, r, e, relW_up tp w v q, relWs_up tp ws r z⟩
end
theorem relKV_up (tp : ∀ a vs, Rd H a (.tup vs) → Rd H' a (.tup vs)) : ∀ (ps : List (W × W)) (ks : List (Key × V)), RelKV K A m H ps ks → RelKV K A m H' ps ks
  | [], _, h => h
  | _ :: _, _, ⟨k, v, r, e, q, z, t⟩ => ⟨k, v, r, e, q, relW_up tp _ _ z, relKV_up tp _ _ t⟩
theorem relFs_up (tp : ∀ a vs, Rd H a (.tup vs) → Rd H' a (.tup vs)) : ∀ (ps : List (Nat × W)) (ks : List (Str × V)), RelFs K A m H ps ks → RelFs K A m H' ps ks
  | [], _, h => h
  | _ :: _, _, ⟨v, r, e, z, t⟩ => ⟨v, r, e, relW_up tp _ _ z, relFs_up tp _ _ t⟩
theorem side_tp {D : Addr} {o o' : HO} (hD : H D = some o) (nt : ∀ vs, ¬ Rd H D (.tup vs)) : ∀ a vs, Rd H a (.tup vs) → Rd (upd H D o') a (.tup vs) := fun b vs z => by
  have hb : b ≠ D := fun q => nt vs (q ▸ z)
  rcases z with z | ⟨u, z⟩
  · exact .inl (by rw [upd_ne hb]; exact z)
  · exact .inr ⟨u, by rw [upd_ne hb]; exact z⟩
theorem cell_up (tp : ∀ a vs, Rd H a (.tup vs) → Rd H' a (.tup vs)) {a : Addr} {c : Cell} (e : H' a = H a) (h : CellOk K A m H a c) : CellOk K A m H' a c := by
  cases c with
  | lst ws => obtain ⟨vs, q, r⟩ := h; exact ⟨vs, e.trans q, relWs_up tp _ _ r⟩
  | frz ws => obtain ⟨o, vs, q, r⟩ := h; exact ⟨o, vs, e.trans q, relWs_up tp _ _ r⟩
  | dct ws => obtain ⟨vs, q, r⟩ := h; exact ⟨vs, e.trans q, relKV_up tp _ _ r⟩
  | fdc ws => obtain ⟨o, vs, q, r⟩ := h; exact ⟨o, vs, e.trans q, relKV_up tp _ _ r⟩
  | ins c fs => obtain ⟨dx, vs, q, r⟩ := h; exact ⟨dx, vs, e.trans q, relFs_up tp _ _ r⟩
theorem HRel.side {h : Hs} {D : Addr} {o o' : HO} (R : HRel K A m h H) (hD : H D = some o) (nD : D ∉ m) (nt : ∀ vs, ¬ Rd H D (.tup vs)) : HRel K A m h (upd H D o') where
  len := R.len
  nd := R.nd
  cell := fun r c b e1 e2 => cell_up (side_tp hD nt) (upd_ne fun z => nD (z ▸ mem_of_get e2)) (R.cell r c b e1 e2)
theorem Stp.side {D : Addr} {o : HO} (s : Stp m H m' H') (n : H D = none) : Stp m H m' (upd H' D o) where
  pre := s.pre
  fr := fun a u e k => by rw [upd_ne (ne_of_none e n)]; exact s.fr a u e k
  tp := fun a vs z => by
    have hb : a ≠ D := by
      rcases z with z | ⟨u, z⟩
      · exact ne_of_none z n
      · exact ne_of_none z n
    rcases s.tp a vs z with q | ⟨u, q⟩
    · exact .inl (by rw [upd_ne hb]; exact q)
    · exact .inr ⟨u, by rw [upd_ne hb]; exact q⟩
  nw := s.nw
  fz := fun a u v e => by rw [upd_ne (ne_of_none e n)]; exact s.fz a u v e
end
theorem bind_assoc {α β γ : Type} (r : R α) (f : α → Hs → R β) (g : β → Hs → R γ) : (r.bind f).bind g = r.bind fun v h => (f v h).bind g := by cases r <;> rfl
theorem bind_id {α : Type} (r : R α) : (r.bind fun v h => .ok v h) = r := by cases r <;> rfl
section
variable {G : Glo} {N : List Str} {A : Nm} {T : Tab} {cal : Nat → List W → Hs → R W} {k : Nat} {X : Cx} {sc sc' : Scope}
/-! ### the block's context -/
def BX (X : Cx) (scope : Scope) (X' : Cx) : Prop := ∃ (s : Shared) (H : Hp) (C : Addr) (cl : List (Str × Addr)) (fp : List Addr), X' = X.blk s H scope (compEnvC scope cl C X.env) fp
theorem lookup_free {sc : Scope} : ∀ {names : List (Str × NameKind)} {x : Str}, names.lookup x = some .free →
    (names.map fun (n, k) => if (k == NameKind.free && sc.kind == .function && sc.names.lookup n == some .cell) then (n, NameKind.cell) else (n, k)).lookup x = some .free ∨
    (names.map fun (n, k) => if (k == NameKind.free && sc.kind == .function && sc.names.lookup n == some .cell) then (n, NameKind.cell) else (n, k)).lookup x = some .cell
  | [], _, h => by simp at h
  | (n, k₀) :: r, x, h => by
    have ih := @lookup_free sc r x
    simp only [List.map_cons]
    cases hx : x == n with
    | true =>
      simp only [List.lookup_cons, hx] at h
      cases h
      by_cases hc : (NameKind.free == NameKind.free && sc.kind == .function && sc.names.lookup n == some .cell) = true
      · rw [if_pos hc]; simp only [List.lookup_cons, hx]; first | exact .inr rfl | exact .inr trivial | simp
      · rw [if_neg hc]; simp only [List.lookup_cons, hx]; first | exact .inl rfl | exact .inl trivial | simp
    | false =>
      simp only [List.lookup_cons, hx] at h
      by_cases hc : (k₀ == NameKind.free && sc.kind == .function && sc.names.lookup n == some .cell) = true
      · rw [if_pos hc]; simp only [List.lookup_cons, hx]; exact ih h
      · rw [if_neg hc]; simp only [List.lookup_cons, hx]; exact ih h
theorem cok_blk (C : Cok G N A T cal k X sc) {X' : Cx} (b : BX X sc' X') : Cok G N A T cal k X' sc' := by
  obtain ⟨s, H, Cc, cl, fp, rfl⟩ := b
  have loc : ∀ x kd, sc'.names.lookup x = some kd → kd ≠ .free → (relabel sc' X.env).names.lookup x = some kd := fun x kd e n => lookup_relS_keep (sc := X.env.scope) n e
  refine ⟨C.calm, C.hN, C.nd, loc, fun x e => lookup_free (sc := X.env.scope) e, C.room, fun x h => ?_, C.fx⟩
  unfold kL at h
  cases e : sc'.names.lookup x with
  | none => rw [e] at h; cases h
  | some kd =>
    rw [e] at h
    cases kd with
    | «local» => exact ⟨.inl (loc x _ e (by decide)), .inr (loc x _ e (by decide))⟩
    | cell => exact ⟨.inr (loc x _ e (by decide)), .inl (by show (sc'.names.lookup x == some .cell) = true; rw [e]; rfl)⟩
    | _ => cases h
theorem blk_ok (C : Cok G N A T cal k X sc) {own : List (Str × Nat)} (h : blkC N sc sc' own = true) : BlkOk X.N X.env.scope sc' own := by
  have b := blkOk_by h
  refine ⟨b.kind, b.uniq, by rw [C.hN]; exact b.ix, fun y hy e => ?_, by rw [C.hN]; exact b.own⟩
  rcases b.free y hy e with z | z
  · exact .inl (C.loc _ _ z (by decide))
  · rcases C.fre _ z with q | q
    · exact .inr q
    · exact .inl q
/-! ### readings that hold in each block -/
def tEB (X : Cx) (scope : Scope) (e : Expr) : TE := fun σ H Q => ∀ X', BX X scope X' → tE X' e σ H Q
def tTs (X : Cx) (ifs : List Expr) : TT := fun σ H Q => ∀ pins s, Inv X pins σ H s → wpAny (model X.prog X.w) X.A (forIn ifs true fun c r => if r = true then do let ok ← isTrue c X.env (eval c X.env); pure (ForInStep.yield ok) else pure (ForInStep.yield r)) (TP X pins σ Q) X.xe s
def tTB (X : Cx) (scope : Scope) (ifs : List Expr) : TT := fun σ H Q => ∀ X', BX X scope X' → tTs X' ifs σ H Q
def tGB (X : Cx) (scope : Scope) (e : Expr) : TG := fun v σ H Q => ∀ X', BX X scope X' → tG X' e v σ H Q
/-- the tests of a block -/
def SB (A : Nm) (T : Tab) (X : Cx) (ifs : List Expr) (ev : Env → Hs → R Bool) : Prop := ∀ (Wx : WX), Takes X Wx → ∀ m H σ env h Q, HRel X.K A m h H → EnvR X.K A m H env σ →
  Out X.K A T (fun _ _ b c => b = c) m H (ev env h) Q (fun c d H' => Wx c d σ H') → tTs X ifs σ H Q
theorem s_cnone : SB A T X [] (evC T cal .none) := fun Wx tk m H σ env h Q hr he o pins s I => pts_nil.run pins s σ H Q I (out_ok o .rfl' hr rfl)
theorem s_csome {e : Ex} {x : Expr} (st : ST A T X x (evE T cal e)) : SB A T X [x] (evC T cal (.some e)) := fun Wx tk m H σ env h Q hr he o pins s I => (pts_one pt_w).run pins s σ H Q I (st Wx tk m H σ env h Q hr he (by rw [evC] at o; exact o))
/-! ### wiping -/
theorem wipeE_len : ∀ (vs : List Nat) (env : Env), (wipeE env vs).length = env.length
  | [], _ => rfl
  | v :: vs, env => by unfold wipeE; rw [List.length_set, wipeE_len vs env]
theorem envR_wipe {K : PySem.W.Frag} {m : Mp} {H : Hp} {env : Env} {σ : L2.St} (he : EnvR K A m H env σ) : ∀ vs : List Nat, EnvR K A m H (wipeE env vs) (wipe σ vs)
  | [] => he
  | v :: vs => by
    have ih := envR_wipe he vs
    refine ⟨by rw [wipeE_len, wipe_length]; exact he.1, fun i w e => ?_⟩
    have e : ((wipeE env vs).set v none)[i]? = some (some w) := e
    show ∃ x, ((wipe σ vs).set v none)[i]? = some (some x) ∧ _
    by_cases hi : i = v
    · subst hi
      have lt := getE_lt e
      rw [List.length_set] at lt
      rw [List.getElem?_set_self lt] at e
      cases e
    · rw [List.getElem?_set_ne (Ne.symm hi)] at e ⊢
      exact ih.2 i w e
theorem wipe_idem (σ : L2.St) : ∀ vs us : List Nat, (∀ i ∈ us, i ∈ vs) → wipe (wipe σ us) vs = wipe σ vs
  | vs, [], _ => rfl
  | vs, u :: us, h => by
    show wipe ((wipe σ us).set u none) vs = wipe σ vs
    rw [wipe_set (h u List.mem_cons_self), wipe_idem σ vs us fun i hi => h i (List.mem_cons_of_mem _ hi)]
theorem not_set_fold {it : Expr} (h : good it = true) (env : PySem.Env) : ∀ x, foldedSetIterable it env x = pure x := by
  intro x
  cases it <;> first | rfl | cases h
/-! ### a target's slots are the block's own -/
mutual
theorem tg_own {own : List (Str × Nat)} (nd : N.Nodup) (b : BlkOk N sc sc' own) : ∀ (t : Tg) (e : Expr), trT N sc' t e = true → ∀ i ∈ tgIx t, i ∈ own.map (·.2)
  | .name i, e, h, j, hj => by
    cases e with
    | Name x pos =>
      simp only [trT, trTg, Bool.and_eq_true, decide_eq_true_eq] at h
      have ej : j = i := by simpa [tgIx] using hj
      subst ej
      have hk := h.2
      unfold kL at hk
      cases el : sc'.names.lookup x with
      | none => rw [el] at hk; cases hk
      | some kd =>
        rw [el] at hk
        have mem : (x, kd) ∈ sc'.names := by
          have : ∀ l : List (Str × NameKind), l.lookup x = some kd → (x, kd) ∈ l := by
            intro l
            induction l with
            | nil => intro h; simp at h
            | cons p l ih =>
              intro h
              obtain ⟨a, b⟩ := p
              rw [List.lookup_cons] at h
              cases hx : x == a with
              | true => simp only [hx] at h; cases h; have : x = a := by simpa using hx
                        rw [this]; exact List.mem_cons_self
              | false => simp only [hx] at h; exact List.mem_cons_of_mem _ (ih h)
          exact this _ el
        have hor : kd = .local ∨ kd = .cell := by cases kd <;> first | exact .inl rfl | exact .inr rfl | cases hk
        rcases b.own (x, kd) mem hor with q | q
        · obtain ⟨p, hp, e1⟩ := List.mem_map.mp q
          have e2 := b.ix p hp
          rw [e1] at e2
          have : p.2 = j := nodup_get nd e2 h.1
          exact List.mem_map.mpr ⟨p, hp, this⟩
        · exact absurd (mem_of_get h.1) q
    | _ => simp [trT, trTg] at h
  | .nil, _, _, j, hj => by simp [tgIx] at hj
  | .cons t r, e, h, j, hj => by
    cases e with
    | Tuple es n pos =>
      cases es with
      | nil => simp [trT] at h
      | cons e es =>
        have h : (trT N sc' t e && trTs N sc' r es) = true := by simpa [trT] using h
        rw [Bool.and_eq_true] at h
        rcases List.mem_append.mp (show j ∈ tgIx t ++ tgIx r from hj) with q | q
        · exact tg_own nd b t e h.1 j q
        · exact tgs_own nd b r es h.2 j q
    | _ => simp [trT] at h
theorem tgs_own {own : List (Str × Nat)} (nd : N.Nodup) (b : BlkOk N sc sc' own) : ∀ (t : Tg) (es : List Expr), trTs N sc' t es = true → ∀ i ∈ tgIx t, i ∈ own.map (·.2)
  | .name i, es, h, j, hj => by cases es <;> simp [trTs] at h
  | .nil, _, _, j, hj => by simp [tgIx] at hj
  | .cons t r, es, h, j, hj => by
    cases es with
    | nil => simp [trTs] at h
    | cons e es =>
      rw [trTs, Bool.and_eq_true] at h
      rcases List.mem_append.mp (show j ∈ tgIx t ++ tgIx r from hj) with q | q
      · exact tg_own nd b t e h.1 j q
      · exact tgs_own nd b r es h.2 j q
end
end
end MP
end

section
set_option Elab.async false
set_option linter.all false
set_option maxRecDepth 100000
set_option maxHeartbeats 8000000
/-! MiniPy: list comprehensions. -/
namespace MP
open PySem PySem.Spec PyProof.Rows L2

section
variable {G : Glo} {N : List Str} {A : Nm} {T : Tab} {cal : Nat → List W → Hs → R W} {k : Nat} {X : Cx} {sc sc' : Scope}
theorem out_noRaise {α β : Type} {K : PySem.W.Frag} {Rl : Mp → Hp → α → β → Prop} {m : Mp} {H : Hp} {r : R α} {Q : β → Hp → Prop} {E E' : XK} (o : Out K A T Rl m H (noRaise r) Q E) : Out K A T Rl m H r Q E' := by
  cases r with
  | ok v h => exact o
  | raise c vs h => exact (show False from o).elim
  | stuck => exact o
/-- the own slots, as the interpreter names them -/
def ownOf (N : List Str) (ws : List Nat) : List (Str × Nat) := ws.filterMap fun i => (N[i]?).map fun x => (x, i)
theorem trB_inv {ws : List Nat} (h : trB N sc sc' ws = true) : blkC N sc sc' (ownOf N ws) = true ∧ (ownOf N ws).map (·.2) = ws := by
  unfold trB at h
  rw [Bool.and_eq_true, decide_eq_true_eq] at h
  exact h
def compR (T : Tab) (cal : Nat → List W → Hs → R W) (e : Ex) (t : Tg) (s : Sr) (c : Cnd) (ws : List Nat) (env : Env) (h : Hs) : R (List W) := (evSr T cal s env h).bind fun sv h1 => if fitL sv.items then noRaise (compGo sv.g (fun x h2 => match asgTg h2 t x (wipeE env ws) with
      | some e1 => (evC T cal c e1 h2).bind fun b h3 => if b then (evE T cal e e1 h3).bind fun y h4 => .ok [y] h4 else .ok [] h3
      | none => .stuck) sv.items h1) else .stuck
theorem comp_tlc (C : Cok G N A T cal k X sc) {e : Ex} {t : Tg} {s : Sr} {c : Cnd} {ws0 : List Nat} {el tg it : Expr} {ifs : List Expr} (hb : trB N sc sc' ws0 = true) (ht : trT N sc' t tg = true) (hs : SR A T X tg it (evSr T cal s))
    (hc : ∀ X', BX X sc' X' → SB A T X' ifs (evC T cal c)) (hE : ∀ X', BX X sc' X' → SE A T X' el (evE T cal e)) {Wx : WX} (tk : Takes X Wx) {m : Mp} {H : Hp} {σ : L2.St} {env : Env} {h : Hs} {Q : VK} (hr : HRel X.K A m h H) (he : EnvR X.K A m H env σ)
    (o : Out X.K A T (RelD A X.K H) m H (compR T cal e t s c ws0 env h) Q (fun c d H' => Wx c d σ H')) : tLc (tI X tg it) (tGB X sc' tg) (tTB X sc' ifs) (tEB X sc' el) ws0 σ H Q := by
  obtain ⟨hb1, hb2⟩ := trB_inv hb
  refine hs Wx tk m H σ env h _ hr he (Out.bind o fun sv h1 m1 H1 J e1 s1 hr1 r1 o1 => ?_)
  obtain ⟨fit, o1⟩ := out_if o1
  have fit : sv.items.length ≤ SZ := of_decide_eq_true fit
  obtain ⟨Gd, Y, wk, key⟩ := r1
  intro D hD
  have hD0 : H D = none := fresh_back s1 hr1 hD
  have o2 := out_noRaise (E' := fun _ _ _ => False) o1
  have nDm : D ∉ m1 := fun z => by
    obtain ⟨u, q⟩ := hr1.has z
    rw [hD] at q; cases q
  have ntl : ∀ {H' : Hp} {vs : List V}, H' D = some (.lst vs) → ∀ us, ¬ Rd H' D (.tup us) := fun {H' vs} q us z => by
    rcases z with z | ⟨u, z⟩ <;> rw [q] at z <;> cases z
  have he1 : EnvR X.K A m1 H1 env σ := he.mono s1
  -- what a turn does
  generalize hf : (fun (x : W) (h2 : Hs) => match asgTg h2 t x (wipeE env ws0) with
      | some e1 => (evC T cal c e1 h2).bind fun b h3 => if b then (evE T cal e e1 h3).bind fun y h4 => .ok [y] h4 else .ok [] h3
      | none => .stuck) = f at o2
  let Pv : Nat → Hp → Prop := fun i H' => ∃ m' h' ws vs, Stp m1 H1 m' H' ∧ HRel X.K A m' h' H' ∧ D ∉ m' ∧ H' D = some (.lst vs) ∧ RelWs X.K A m' H' ws vs ∧ ws.length ≤ i ∧
    Out X.K A T (RelD A X.K H) m1 H1 ((compGo sv.g f (sv.items.drop i) h').bind fun zs h2 => .ok (ws ++ zs) h2) Q (fun _ _ _ => False)
  refine lc_it (D := D) (Qd := Q (.ref D)) wk Pv ?_ (fun i H' hi p => ?_) (fun i x H' H'' hi p y => ?_) (fun H' p => ?_)
  · refine ⟨m1, h1, [], [], Stp.laid hD, hr1.laid hD, nDm, upd_same, rfl, Nat.le_refl _, ?_⟩
    rw [List.drop_zero]
    have : ((compGo sv.g f sv.items h1).bind fun zs h2 => R.ok ([] ++ zs) h2) = compGo sv.g f sv.items h1 := bind_id _
    rw [this]
    exact o2
  · obtain ⟨m', h', ws, vs, st, hr', nD, hv, rv, le, oo⟩ := p
    have hg : gOk sv.g h' = true := by
      cases er : sv.items.drop i with
      | nil =>
        rw [er, compGo] at oo
        by_cases hg : gOk sv.g h' = true
        · exact hg
        · rw [if_neg hg] at oo; exact (show False from oo).elim
      | cons w r =>
        rw [er, compGo] at oo
        by_cases hg : gOk sv.g h' = true
        · exact hg
        · rw [if_neg hg] at oo; exact (show False from oo).elim
    exact (key m' h' H' st hr' hg).1
  · obtain ⟨m', h', ws, vs, st, hr', nD, hv, rv, le, oo⟩ := p
    have er : sv.items.drop i = sv.items[i] :: sv.items.drop (i + 1) := List.drop_eq_getElem_cons hi
    rw [er, compGo] at oo
    by_cases hg : gOk sv.g h' = true
    · rw [if_pos hg] at oo
      obtain ⟨w, ew, s3, hr3, rw'⟩ := (key m' h' H' st hr' hg).2 i x H'' hi y
      rw [List.getElem?_eq_getElem hi] at ew
      have ew := Option.some.inj ew
      rw [ew, bind_assoc] at oo
      subst hf
      dsimp only at oo
      cases ea : asgTg h' t w (wipeE env ws0) with
      | none => rw [ea] at oo; exact (show False from oo).elim
      | some e2 =>
        rw [ea] at oo
        dsimp only at oo
        rw [bind_assoc] at oo
        have st3 : Stp m1 H1 m' H'' := st.trans s3
        have he3 : EnvR X.K A m' H'' (wipeE env ws0) (wipe σ ws0) := envR_wipe (he1.mono st3) ws0
        have nD3 : D ∉ m' := nD
        have hv3 : H'' D = some (.lst vs) := s3.fr D _ hv nD
        intro X1 b1
        refine s_tg (cok_blk C b1) t tg ht m' H'' (wipe σ ws0) (wipeE env ws0) h' w x e2 _ (by obtain ⟨_, _, _, _, _, rfl⟩ := b1; exact hr3) (by obtain ⟨_, _, _, _, _, rfl⟩ := b1; exact he3) (by obtain ⟨_, _, _, _, _, rfl⟩ := b1; exact rw') ea fun σ2 he4 hw4 => ?_
        have he4 : EnvR X.K A m' H'' e2 σ2 := by obtain ⟨_, _, _, _, _, rfl⟩ := b1; exact he4
        refine ⟨?_, ?_⟩
        · have own : ∀ i ∈ tgIx t, i ∈ ws0 := fun i hi => by
            have := tg_own C.nd (blkOk_by hb1) t tg ht i hi
            rw [hb2] at this
            exact this
          rw [hw4 ws0 own, wipe_idem σ ws0 ws0 fun _ h => h]
        intro X2 b2
        refine hc X2 b2 _ takes0 m' H'' σ2 e2 h' _ (by obtain ⟨_, _, _, _, _, rfl⟩ := b2; exact hr3) (by obtain ⟨_, _, _, _, _, rfl⟩ := b2; exact he4) ?_
        have oc := Out.step oo st3
        have kk : X2.K = X.K := by obtain ⟨_, _, _, _, _, rfl⟩ := b2; rfl
        rw [kk]
        refine Out.bind oc fun b h3 m3 H3 b' e3 s4 hr4 rb o4 => ?_
        subst rb
        have oo3 := oo
        rw [e3, bind_ok] at oo3
        have nD4 : D ∉ m3 := fun z => by
          rcases s4.nw D z with z | z
          · exact nD3 z
          · rw [hv3] at z; cases z
        have hv4 : H3 D = some (.lst vs) := s4.fr D _ hv3 nD3
        have st4 := st3.trans s4
        have rv4 : RelWs X.K A m3 H3 ws vs := (rv.mono s3).mono s4
        cases b with
        | false =>
          rw [if_neg Bool.false_ne_true, bind_ok] at oo3
          rw [if_neg Bool.false_ne_true]
          refine ⟨m3, h3, ws, vs, st4, hr4, nD4, hv4, rv4, by omega, ?_⟩
          rw [bind_assoc] at oo3
          exact oo3
        | true =>
          rw [if_pos rfl, bind_assoc] at oo3
          rw [if_pos rfl]
          intro X3 b3
          refine hE X3 b3 _ takes0 m3 H3 σ2 e2 h3 _ (by obtain ⟨_, _, _, _, _, rfl⟩ := b3; exact hr4) (by obtain ⟨_, _, _, _, _, rfl⟩ := b3; exact he4.mono s4) ?_
          have kk3 : X3.K = X.K := by obtain ⟨_, _, _, _, _, rfl⟩ := b3; rfl
          rw [kk3]
          refine Out.bind (Out.step oo3 st4) fun y h5 m5 H5 yv e5 s5 hr5 r5 o5 => ?_
          have oo5 := oo3
          rw [e5, bind_ok, bind_ok, bind_assoc] at oo5
          have nD5 : D ∉ m5 := fun z => by
            rcases s5.nw D z with z | z
            · exact nD4 z
            · rw [hv4] at z; cases z
          have hv5 : H5 D = some (.lst vs) := s5.fr D _ hv4 nD4
          have tp := side_tp (o' := .lst (vs ++ [yv])) hv5 (ntl hv5)
          refine ⟨vs, hv5, by rw [sz, ← rv.length]; omega, m5, h5, ws ++ [y], vs ++ [yv], (st4.trans s5).side hD, hr5.side hv5 nD5 (ntl hv5), nD5, upd_same, relWs_up tp _ _ ((rv4.mono s5).append (.cons r5 .nil)), by rw [List.length_append, List.length_singleton]; omega, ?_⟩
          have : (fun (zs : List W) (h2 : Hs) => R.ok (ws ++ ([y] ++ zs)) h2) = fun zs h2 => R.ok (ws ++ [y] ++ zs) h2 := by funext zs h2; rw [List.append_assoc]
          simp only [bind_ok] at oo5
          rw [this] at oo5
          exact oo5
    · rw [if_neg hg] at oo; exact (show False from oo).elim
  · obtain ⟨m', h', ws, vs, st, hr', nD, hv, rv, le, oo⟩ := p
    rw [List.drop_length, compGo] at oo
    by_cases hg : gOk sv.g h' = true
    · rw [if_pos hg, bind_ok, List.append_nil] at oo
      exact oo m' H' (.ref D) st hr' ⟨D, vs, rfl, hv, nD, hD0, rv⟩
    · rw [if_neg hg] at oo; exact (show False from oo).elim
theorem comp_core (C : Cok G N A T cal k X sc) {e : Ex} {t : Tg} {s : Sr} {c : Cnd} {ws0 : List Nat} {el tg it : Expr} {ifs : List Expr} {pos : Pos} (gi : good it = true) (hb : trB N sc sc' ws0 = true) (ht : trT N sc' t tg = true) (hs : SR A T X tg it (evSr T cal s))
    (hc : ∀ X', BX X sc' X' → SB A T X' ifs (evC T cal c)) (hE : ∀ X', BX X sc' X' → SE A T X' el (evE T cal e)) : SL A T X (.ListComp el [⟨tg, it, ifs, 0⟩] sc' pos) (compR T cal e t s c ws0) := by
  intro Wx tk m H σ env h Q hr he o
  obtain ⟨hb1, hb2⟩ := trB_inv hb
  have bo := blk_ok C hb1
  refine tE_of (pe_lc (g := tGB X sc' tg) (tt := tTB X sc' ifs) (te := tEB X sc' el) C.calm (by rw [C.hN]; exact C.nd) (pi_w (X := X)) bo (fun s H Cc cl fp => ⟨fun pins s' σ' H' v u Q' I r q => q _ ⟨s, H, Cc, cl, fp, rfl⟩ pins s' u I r⟩)
    (fun s H Cc cl fp => ⟨fun pins s' σ' H' Q' I q => q _ ⟨s, H, Cc, cl, fp, rfl⟩ pins s' I⟩) (fun s H Cc cl fp => ⟨fun pins s' σ' H' Q' I q => q _ ⟨s, H, Cc, cl, fp, rfl⟩ pins s' I⟩) (not_set_fold gi _)) ?_
  rw [hb2]
  exact comp_tlc C hb ht hs hc hE tk hr he o
end
end MP
end

section
set_option Elab.async false
set_option linter.all false
set_option maxRecDepth 100000
set_option maxHeartbeats 8000000
/-! MiniPy: locked dicts; dict comprehensions. -/
namespace MP
open PySem PySem.Spec PyProof.Rows L2

section
variable {K : PySem.W.Frag} {A : Nm} {m m' : Mp} {h h2 : Hs} {H H' : Hp}
theorem lock_parts (hr : HRel K A m h H) {r : Nat} {d : Addr} {kvs : List (W × W)} (e : m[r]? = some d) (ec : h[r]? = some (.dct kvs)) : ∃ ks, H d = some (.dK ks) ∧ RelKV K A m H kvs ks ∧ ∀ od, HRel K A m (h.set r (.fdc kvs)) (upd H d (.frz od (.dK ks))) ∧ Stp m H m (upd H d (.frz od (.dK ks))) := by
  obtain ⟨ks, q, rk⟩ := hr.cell _ _ _ ec e
  have nf : ∀ o u, H d ≠ some (.frz o u) := fun _ _ z => by rw [q] at z; cases z
  have nt : ∀ vs, ¬ Rd H d (.tup vs) := fun _ => (hr.cell _ _ _ ec e).notTup
  exact ⟨ks, q, rk, fun od => ⟨hr.wrote e ec nf fun s => ⟨od, ks, upd_same, rk.mono s⟩, Stp.wrote e nt nf⟩⟩
theorem unlock_parts (hr : HRel K A m h H) {r : Nat} {d : Addr} {od : Obj} {kvs : List (W × W)} {ks : List (Key × V)} (e : m[r]? = some d) (q : H d = some (.dK ks)) (rk : RelKV K A m H kvs ks) (s : Stp m (upd H d (.frz od (.dK ks))) m' H') (hr2 : HRel K A m' h2 H') (c : h2[r]? = some (.fdc kvs)) :
    H' d = some (.frz od (.dK ks)) ∧ Stp m H m' (upd H' d (.dK ks)) ∧ HRel K A m' (h2.set r (.dct kvs)) (upd H' d (.dK ks)) := by
  have hd' : H' d = some (.frz od (.dK ks)) := s.fz d od _ upd_same
  have hm : d ∈ m := mem_of_get e
  have nt' : ∀ vs, ¬ Rd H' d (.tup vs) := fun vs z => by rcases z with z | ⟨u, z⟩ <;> rw [hd'] at z <;> cases z
  have st : Stp m H m' (upd H' d (.dK ks)) := by
    refine ⟨s.pre, fun a o ea na => ?_, fun a vs z => ?_, fun a ha => ?_, fun a o u ea => ?_⟩
    · have ne : a ≠ d := fun z => na (z ▸ hm)
      rw [upd_ne ne]
      exact s.fr a o (by rw [upd_ne ne]; exact ea) na
    · have ne : a ≠ d := fun y => by
        subst y
        rcases z with z | ⟨u, z⟩ <;> rw [q] at z <;> cases z
      have z2 : Rd (upd H d (.frz od (.dK ks))) a (.tup vs) := by
        rcases z with z | ⟨u, z⟩
        · exact .inl (by rw [upd_ne ne]; exact z)
        · exact .inr ⟨u, by rw [upd_ne ne]; exact z⟩
      rcases s.tp a vs z2 with z | ⟨u, z⟩
      · exact .inl (by rw [upd_ne ne]; exact z)
      · exact .inr ⟨u, by rw [upd_ne ne]; exact z⟩
    · rcases s.nw a ha with z | z
      · exact .inl z
      · refine .inr ?_
        have ne : a ≠ d := fun y => by subst y; rw [upd_same] at z; cases z
        rw [upd_ne ne] at z; exact z
    · have ne : a ≠ d := fun y => by subst y; rw [q] at ea; cases ea
      rw [upd_ne ne]
      exact s.fz a o u (by rw [upd_ne ne]; exact ea)
  refine ⟨hd', st, ⟨by rw [List.length_set]; exact hr2.len, hr2.nd, fun j cc b e1 e2 => ?_⟩⟩
  have e' : m'[r]? = some d := s.pre r d e
  by_cases hj : j = r
  · subst hj
    rw [e'] at e2; cases e2
    rw [List.getElem?_set_self (getE_lt c)] at e1
    cases e1
    exact ⟨ks, upd_same, rk.mono st⟩
  · rw [List.getElem?_set_ne (Ne.symm hj)] at e1
    exact cell_up (side_tp hd' nt') (upd_ne fun z => hj (nodup_get hr2.nd (z ▸ e2) e')) (hr2.cell j cc b e1 e2)
theorem lockOf_inv {env : Env} {h : Hs} {s : Sr} {r : Nat} {kvs : List (W × W)} (e : lockOf env h s = some (r, kvs)) : h[r]? = some (.dct kvs) := by
  unfold lockOf at e
  split at e
  · split at e
    · split at e
      · rename_i ec; cases e; exact ec
      · cases e
    · cases e
  · split at e
    · split at e
      · rename_i ec; cases e; exact ec
      · cases e
    · cases e
  · split at e
    · split at e
      · rename_i ec; cases e; exact ec
      · cases e
    · cases e
  · cases e
theorem locked_out {α β : Type} {T : Tab} {Rl : Mp → Hp → α → β → Prop} {f : Hs → R α} {r : Nat} {kvs : List (W × W)} {Q : β → Hp → Prop} {E : XK} (o : Out K A T Rl m H (locked (some (r, kvs)) f h) Q E) : ∃ v h2, f (h.set r (.fdc kvs)) = .ok v h2 ∧ h2[r]? = some (.fdc kvs) ∧ Out K A T Rl m H (.ok v (h2.set r (.dct kvs))) Q E := by
  unfold locked at o
  dsimp only at o
  cases er : f (h.set r (.fdc kvs)) with
  | ok v h2 =>
    rw [er] at o
    have o : Out K A T Rl m H (if h2[r]? = some (.fdc kvs) then .ok v (h2.set r (.dct kvs)) else .stuck) Q E := o
    obtain ⟨c, o⟩ := out_if o
    exact ⟨v, h2, rfl, c, o⟩
  | raise c vs h2 => rw [er] at o; exact (show False from o).elim
  | stuck => rw [er] at o; exact (show False from o).elim
end
section
variable {G : Glo} {N : List Str} {A : Nm} {T : Tab} {cal : Nat → List W → Hs → R W} {k : Nat} {X : Cx} {sc sc' : Scope}
theorem s_lockL {e : Expr} {s : Sr} {f : Env → Hs → R (List W)} (hf : SL A T X e f) : SL A T X e (fun env h => locked (lockOf env h s) (f env) h) := by
  intro Wx tk m H σ env h Q hr he o
  dsimp only at o
  cases el : lockOf env h s with
  | none => rw [el] at o; exact hf Wx tk m H σ env h Q hr he o
  | some p =>
    obtain ⟨r, kvs⟩ := p
    rw [el] at o
    have ec := lockOf_inv el
    obtain ⟨d, e1, _⟩ := hr.addr ec
    obtain ⟨ks, q, rk, lk⟩ := lock_parts hr e1 ec
    obtain ⟨ws, h2, ef, c, o⟩ := locked_out o
    refine tE_of (pe_lock pe_w) ⟨d, .dK ks, q, trivial, fun od => ?_⟩
    obtain ⟨hr1, s1⟩ := lk od
    refine hf Wx tk m _ σ env (h.set r (.fdc kvs)) _ hr1 (he.mono s1) ?_
    rw [ef]
    intro m' H' v s' hr' rv
    obtain ⟨u1, u2, u3⟩ := unlock_parts hr e1 q rk s' hr' c
    refine ⟨u1, o m' _ v u2 u3 ?_⟩
    obtain ⟨D, vs, rfl, hD, nD, n0, rr⟩ := rv
    have nd : D ≠ d := fun z => nD (z ▸ s'.pre r d e1 |> mem_of_get)
    have nt : ∀ vs, ¬ Rd H' d (.tup vs) := fun vs z => by rcases z with z | ⟨u, z⟩ <;> rw [u1] at z <;> cases z
    exact ⟨D, vs, rfl, by rw [upd_ne nd]; exact hD, nD, by rw [upd_ne nd] at n0; exact n0, relWs_up (side_tp u1 nt) _ _ rr⟩
theorem s_lockE {e : Expr} {s : Sr} {f : Env → Hs → R W} (hf : SE A T X e f) : SE A T X e (fun env h => locked (lockOf env h s) (f env) h) := by
  intro Wx tk m H σ env h Q hr he o
  dsimp only at o
  cases el : lockOf env h s with
  | none => rw [el] at o; exact hf Wx tk m H σ env h Q hr he o
  | some p =>
    obtain ⟨r, kvs⟩ := p
    rw [el] at o
    have ec := lockOf_inv el
    obtain ⟨d, e1, _⟩ := hr.addr ec
    obtain ⟨ks, q, rk, lk⟩ := lock_parts hr e1 ec
    obtain ⟨ws, h2, ef, c, o⟩ := locked_out o
    refine tE_of (pe_lock pe_w) ⟨d, .dK ks, q, trivial, fun od => ?_⟩
    obtain ⟨hr1, s1⟩ := lk od
    refine hf Wx tk m _ σ env (h.set r (.fdc kvs)) _ hr1 (he.mono s1) ?_
    rw [ef]
    intro m' H' v s' hr' rv
    obtain ⟨u1, u2, u3⟩ := unlock_parts hr e1 q rk s' hr' c
    have nt : ∀ vs, ¬ Rd H' d (.tup vs) := fun vs z => by rcases z with z | ⟨u, z⟩ <;> rw [u1] at z <;> cases z
    exact ⟨u1, o m' _ v u2 u3 (relW_up (side_tp u1 nt) _ _ rv)⟩
theorem s_comp (C : Cok G N A T cal k X sc) {e : Ex} {t : Tg} {s : Sr} {c : Cnd} {ws0 : List Nat} {el tg it : Expr} {ifs : List Expr} {pos : Pos} (gi : good it = true) (hb : trB N sc sc' ws0 = true) (ht : trT N sc' t tg = true) (hs : SR A T X tg it (evSr T cal s))
    (hc : ∀ X', BX X sc' X' → SB A T X' ifs (evC T cal c)) (hE : ∀ X', BX X sc' X' → SE A T X' el (evE T cal e)) : SL A T X (.ListComp el [⟨tg, it, ifs, 0⟩] sc' pos) (evL T cal (.comp e t s c ws0)) := by
  have := s_lockL (s := s) (comp_core (pos := pos) C gi hb ht hs hc hE)
  intro Wx tk m H σ env h Q hr he o
  rw [evL] at o
  exact this Wx tk m H σ env h Q hr he o
/-! ### dict comprehensions -/
theorem pairsD_app : ∀ (a b : List W) (acc : List (W × W)), pairsD (a ++ b) acc = (pairsD a acc).bind (pairsD b)
  | [], b, acc => rfl
  | w :: a, b, acc => by
    show pairsD (w :: (a ++ b)) acc = _
    unfold pairsD
    cases w with
    | tup xs =>
      match xs with
      | [] => rfl
      | [_] => rfl
      | [k, v] =>
        dsimp only
        by_cases hk : k.key = true
        · rw [if_pos hk, if_pos hk]; exact pairsD_app a b _
        · rw [if_neg hk, if_neg hk]; rfl
      | _ :: _ :: _ :: _ => rfl
    | _ => rfl
theorem dPut_len (k v : W) (kvs : List (W × W)) : (dPut k v kvs).length ≤ kvs.length + 1 := by
  unfold dPut
  split
  · rw [List.length_map]; omega
  · rw [List.length_append, List.length_singleton]; omega
def dcompR (T : Tab) (cal : Nat → List W → Hs → R W) (ke ve : Ex) (t : Tg) (s : Sr) (c : Cnd) (ws : List Nat) (env : Env) (h : Hs) : R W := (evSr T cal s env h).bind fun sv h1 => if fitL sv.items then (noRaise (compGo sv.g (fun x h2 => match asgTg h2 t x (wipeE env ws) with
      | some e1 => (evC T cal c e1 h2).bind fun b h3 => if b then (evE T cal ke e1 h3).bind fun kv h4 => (evE T cal ve e1 h4).bind fun vv h5 => if kv.key then R.ok [W.tup [kv, vv]] h5 else .stuck else .ok [] h3
      | none => .stuck) sv.items h1)).bind fun ps h2 => match pairsD ps [] with
        | some kvs => .ok (.ref h2.length) (h2 ++ [.dct kvs])
        | none => .stuck else .stuck
def finD (ps : List W) (h2 : Hs) : R W := match pairsD ps [] with
        | some kvs => .ok (.ref h2.length) (h2 ++ [.dct kvs])
        | none => .stuck
theorem out_noRaiseB {α γ : Type} {β : Type} {K : PySem.W.Frag} {Rl : Mp → Hp → α → β → Prop} {m : Mp} {H : Hp} {r : R γ} {f : γ → Hs → R α} (hf : ∀ v h, (∃ a h', f v h = .ok a h') ∨ f v h = .stuck) {Q : β → Hp → Prop} {E E' : XK} (o : Out K A T Rl m H ((noRaise r).bind f) Q E) : Out K A T Rl m H (r.bind f) Q E' := by
  cases r with
  | ok v h =>
    have o : Out K A T Rl m H (f v h) Q E := o
    show Out K A T Rl m H (f v h) Q E'
    rcases hf v h with ⟨a, h', e⟩ | e
    · rw [e] at o ⊢; exact o
    · rw [e] at o ⊢; exact o
  | raise c vs h => exact (show False from o).elim
  | stuck => exact o
theorem dcomp_core (C : Cok G N A T cal k X sc) {ke ve : Ex} {t : Tg} {s : Sr} {c : Cnd} {ws0 : List Nat} {ek el tg it : Expr} {ifs : List Expr} {pos : Pos} (gi : good it = true) (hb : trB N sc sc' ws0 = true) (ht : trT N sc' t tg = true) (hs : SR A T X tg it (evSr T cal s))
    (hc : ∀ X', BX X sc' X' → SB A T X' ifs (evC T cal c)) (hK : ∀ X', BX X sc' X' → SE A T X' ek (evE T cal ke)) (hE : ∀ X', BX X sc' X' → SE A T X' el (evE T cal ve)) : SE A T X (.DictComp ek el [⟨tg, it, ifs, 0⟩] sc' pos) (dcompR T cal ke ve t s c ws0) := by
  intro Wx tk m H σ env h Q hr he o
  obtain ⟨hb1, hb2⟩ := trB_inv hb
  have bo := blk_ok C hb1
  refine tE_of (pe_dc (g := tGB X sc' tg) (tt := tTB X sc' ifs) (tk := tEB X sc' ek) (tv := tEB X sc' el) C.calm (by rw [C.hN]; exact C.nd) (pi_w (X := X)) bo (fun s H Cc cl fp => ⟨fun pins s' σ' H' v u Q' I r q => q _ ⟨s, H, Cc, cl, fp, rfl⟩ pins s' u I r⟩)
    (fun s H Cc cl fp => ⟨fun pins s' σ' H' Q' I q => q _ ⟨s, H, Cc, cl, fp, rfl⟩ pins s' I⟩) (fun s H Cc cl fp => ⟨fun pins s' σ' H' Q' I q => q _ ⟨s, H, Cc, cl, fp, rfl⟩ pins s' I⟩) (fun s H Cc cl fp => ⟨fun pins s' σ' H' Q' I q => q _ ⟨s, H, Cc, cl, fp, rfl⟩ pins s' I⟩) (not_set_fold gi _)) ?_
  rw [hb2]
  refine hs Wx tk m H σ env h _ hr he (Out.bind o fun sv h1 m1 H1 J e1 s1 hr1 r1 o1 => ?_)
  obtain ⟨fit, o1⟩ := out_if o1
  have fit : sv.items.length ≤ SZ := of_decide_eq_true fit
  obtain ⟨Gd, Y, wk, key⟩ := r1
  intro D hD
  have hD0 : H D = none := fresh_back s1 hr1 hD
  have hfin : ∀ (v : List W) (h : Hs), (∃ a h', finD v h = .ok a h') ∨ finD v h = .stuck := fun v h => by
    unfold finD
    split
    · exact .inl ⟨_, _, rfl⟩
    · exact .inr rfl
  have o2 : Out X.K A T (RelW X.K A) m1 H1 ((compGo sv.g (fun x h2 => match asgTg h2 t x (wipeE env ws0) with
      | some e1 => (evC T cal c e1 h2).bind fun b h3 => if b then (evE T cal ke e1 h3).bind fun kv h4 => (evE T cal ve e1 h4).bind fun vv h5 => if kv.key then R.ok [W.tup [kv, vv]] h5 else .stuck else .ok [] h3
      | none => .stuck) sv.items h1).bind finD) Q (fun _ _ _ => False) := out_noRaiseB hfin o1
  have nDm : D ∉ m1 := fun z => by
    obtain ⟨u, q⟩ := hr1.has z
    rw [hD] at q; cases q
  have ntl : ∀ {H' : Hp} {vs : List (Key × V)}, H' D = some (.dK vs) → ∀ us, ¬ Rd H' D (.tup us) := fun {H' vs} q us z => by
    rcases z with z | ⟨u, z⟩ <;> rw [q] at z <;> cases z
  have he1 : EnvR X.K A m1 H1 env σ := he.mono s1
  generalize hf : (fun (x : W) (h2 : Hs) => match asgTg h2 t x (wipeE env ws0) with
      | some e1 => (evC T cal c e1 h2).bind fun b h3 => if b then (evE T cal ke e1 h3).bind fun kv h4 => (evE T cal ve e1 h4).bind fun vv h5 => if kv.key then R.ok [W.tup [kv, vv]] h5 else .stuck else .ok [] h3
      | none => .stuck) = f at o2
  let Pv : Nat → Hp → Prop := fun i H' => ∃ m' h' ps acc ks, Stp m1 H1 m' H' ∧ HRel X.K A m' h' H' ∧ D ∉ m' ∧ H' D = some (.dK ks) ∧ RelKV X.K A m' H' acc ks ∧ pairsD ps [] = some acc ∧ acc.length ≤ i ∧
    Out X.K A T (RelW X.K A) m1 H1 ((compGo sv.g f (sv.items.drop i) h').bind fun zs h2 => finD (ps ++ zs) h2) Q (fun _ _ _ => False)
  suffices hmain : ∃ W : Nat → Nat → Hp → Prop, (∃ m, W 0 m (upd H1 D (.dK []))) ∧ ∀ i m H, W i m H →
      (J.stop i H ∧ Q (.ref D) H) ∨ (J.go i H ∧ ∃ Nx : Hp → Prop, (∀ H', Nx H' → ∃ m', m' < m ∧ W (i + 1) m' H') ∧ ∀ x H', J.yld i H x H' → tGB X sc' tg x (wipe σ ws0) H' fun σ2 H2 => wipe σ2 ws0 = wipe σ ws0 ∧ tTB X sc' ifs σ2 H2 fun b H3 =>
        if b = true then tEB X sc' ek σ2 H3 fun y H4 => tEB X sc' el σ2 H4 fun z H5 => ∃ kvs k, y = L2.kV k ∧ H5 D = some (.dK kvs) ∧ kvs.length < sizeLine ∧ Nx (upd H5 D (.dK (putK kvs k z))) else Nx H3) from hmain
  have gok : ∀ i h', Out X.K A T (RelW X.K A) m1 H1 ((compGo sv.g f (sv.items.drop i) h').bind fun zs h2 => finD ([] ++ zs) h2) Q (fun _ _ _ => False) → True := fun _ _ _ => trivial
  have gok : ∀ i h' (ps : List W), Out X.K A T (RelW X.K A) m1 H1 ((compGo sv.g f (sv.items.drop i) h').bind fun zs h2 => finD (ps ++ zs) h2) Q (fun _ _ _ => False) → gOk sv.g h' = true := by
    intro i h' ps oo
    cases er : sv.items.drop i with
    | nil =>
      rw [er, compGo] at oo
      by_cases hg : gOk sv.g h' = true
      · exact hg
      · rw [if_neg hg] at oo; exact (show False from oo).elim
    | cons w r =>
      rw [er, compGo] at oo
      by_cases hg : gOk sv.g h' = true
      · exact hg
      · rw [if_neg hg] at oo; exact (show False from oo).elim
  refine ⟨fun i mm H' => mm = sv.items.length - i ∧ i ≤ sv.items.length ∧ Pv i H', ⟨sv.items.length, by simp, Nat.zero_le _, ?_⟩, ?_⟩
  · refine ⟨m1, h1, [], [], [], Stp.laid hD, hr1.laid hD, nDm, upd_same, rfl, rfl, Nat.le_refl _, ?_⟩
    rw [List.drop_zero]
    exact o2
  rintro i mm H' ⟨rfl, hi, p⟩
  obtain ⟨m', h', ps, acc, ks, st, hr', nD, hv, rk, pd, le, oo⟩ := p
  have hg := gok i h' ps oo
  have hG := (key m' h' H' st hr' hg).1
  by_cases hlt : i < sv.items.length
  · refine .inr ⟨wk.goes i H' hlt hG, Pv (i + 1), fun H'' p' => ⟨sv.items.length - (i + 1), by omega, rfl, hlt, p'⟩, fun x H'' y0 => ?_⟩
    have y := wk.yields i H' x H'' hlt hG y0
    have er : sv.items.drop i = sv.items[i] :: sv.items.drop (i + 1) := List.drop_eq_getElem_cons hlt
    rw [er, compGo, if_pos hg] at oo
    obtain ⟨w, ew, s3, hr3, rw'⟩ := (key m' h' H' st hr' hg).2 i x H'' hlt y
    rw [List.getElem?_eq_getElem hlt] at ew
    have ew := Option.some.inj ew
    rw [ew, bind_assoc] at oo
    subst hf
    dsimp only at oo
    cases ea : asgTg h' t w (wipeE env ws0) with
    | none => rw [ea] at oo; exact (show False from oo).elim
    | some e2 =>
      rw [ea] at oo
      dsimp only at oo
      rw [bind_assoc] at oo
      have st3 : Stp m1 H1 m' H'' := st.trans s3
      have he3 : EnvR X.K A m' H'' (wipeE env ws0) (wipe σ ws0) := envR_wipe (he1.mono st3) ws0
      have hv3 : H'' D = some (.dK ks) := s3.fr D _ hv nD
      intro X1 b1
      refine s_tg (cok_blk C b1) t tg ht m' H'' (wipe σ ws0) (wipeE env ws0) h' w x e2 _ (by obtain ⟨_, _, _, _, _, rfl⟩ := b1; exact hr3) (by obtain ⟨_, _, _, _, _, rfl⟩ := b1; exact he3) (by obtain ⟨_, _, _, _, _, rfl⟩ := b1; exact rw') ea fun σ2 he4 hw4 => ?_
      have he4 : EnvR X.K A m' H'' e2 σ2 := by obtain ⟨_, _, _, _, _, rfl⟩ := b1; exact he4
      refine ⟨?_, ?_⟩
      · have own : ∀ i ∈ tgIx t, i ∈ ws0 := fun i hi => by
          have := tg_own C.nd (blkOk_by hb1) t tg ht i hi
          rw [hb2] at this
          exact this
        rw [hw4 ws0 own, wipe_idem σ ws0 ws0 fun _ h => h]
      intro X2 b2
      refine hc X2 b2 _ takes0 m' H'' σ2 e2 h' _ (by obtain ⟨_, _, _, _, _, rfl⟩ := b2; exact hr3) (by obtain ⟨_, _, _, _, _, rfl⟩ := b2; exact he4) ?_
      have oc := Out.step oo st3
      have kk : X2.K = X.K := by obtain ⟨_, _, _, _, _, rfl⟩ := b2; rfl
      rw [kk]
      refine Out.bind oc fun b h3 m3 H3 b' e3 s4 hr4 rb o4 => ?_
      subst rb
      have oo3 := oo
      rw [e3, bind_ok] at oo3
      have nD4 : D ∉ m3 := fun z => by
        rcases s4.nw D z with z | z
        · exact nD z
        · rw [hv3] at z; cases z
      have hv4 : H3 D = some (.dK ks) := s4.fr D _ hv3 nD
      have st4 := st3.trans s4
      have rk4 : RelKV X.K A m3 H3 acc ks := (rk.mono s3).mono s4
      cases b with
      | false =>
        rw [if_neg Bool.false_ne_true, bind_ok] at oo3
        rw [if_neg Bool.false_ne_true]
        refine ⟨m3, h3, ps, acc, ks, st4, hr4, nD4, hv4, rk4, pd, by omega, ?_⟩
        rw [bind_assoc] at oo3
        exact oo3
      | true =>
        rw [if_pos rfl, bind_assoc] at oo3
        rw [if_pos rfl]
        intro X3 b3
        refine hK X3 b3 _ takes0 m3 H3 σ2 e2 h3 _ (by obtain ⟨_, _, _, _, _, rfl⟩ := b3; exact hr4) (by obtain ⟨_, _, _, _, _, rfl⟩ := b3; exact he4.mono s4) ?_
        have kk3 : X3.K = X.K := by obtain ⟨_, _, _, _, _, rfl⟩ := b3; rfl
        rw [kk3]
        refine Out.bind (Out.step oo3 st4) fun kw h5 m5 H5 kv e5 s5 hr5 r5 o5 => ?_
        have oo5 := oo3
        rw [e5, bind_ok, bind_assoc] at oo5
        have nD5 : D ∉ m5 := fun z => by
          rcases s5.nw D z with z | z
          · exact nD4 z
          · rw [hv4] at z; cases z
        have hv5 : H5 D = some (.dK ks) := s5.fr D _ hv4 nD4
        have st5 := st4.trans s5
        intro X4 b4
        refine hE X4 b4 _ takes0 m5 H5 σ2 e2 h5 _ (by obtain ⟨_, _, _, _, _, rfl⟩ := b4; exact hr5) (by obtain ⟨_, _, _, _, _, rfl⟩ := b4; exact (he4.mono s4).mono s5) ?_
        have kk4 : X4.K = X.K := by obtain ⟨_, _, _, _, _, rfl⟩ := b4; rfl
        rw [kk4]
        refine Out.bind (Out.step oo5 st5) fun vw h6 m6 H6 vv e6 s6 hr6 r6 o6 => ?_
        have oo6 := oo5
        rw [e6, bind_ok] at oo6
        have nD6 : D ∉ m6 := fun z => by
          rcases s6.nw D z with z | z
          · exact nD5 z
          · rw [hv5] at z; cases z
        have hv6 : H6 D = some (.dK ks) := s6.fr D _ hv5 nD5
        have st6 := st5.trans s6
        by_cases hk : kw.key = true
        · rw [if_pos hk, bind_ok, bind_assoc] at oo6
          have rkw : RelW X.K A m6 H6 kw kv := r5.mono s6
          obtain ⟨kk, rfl, rfl⟩ := key_rel hk rkw
          have rk6 : RelKV X.K A m6 H6 acc ks := (rk4.mono s5).mono s6
          refine ⟨ks, kk, rfl, hv6, by rw [sz, relKV_len rk6]; omega, m6, h6, ps ++ [.tup [keyW kk, vw]], dPut (keyW kk) vw acc, putK ks kk vv, st6.side hD, hr6.side hv6 nD6 (ntl hv6), nD6, upd_same, relKV_up (side_tp hv6 (ntl hv6)) _ _ (relKV_put r6 rk6), ?_, by have := dPut_len (keyW kk) vw acc; omega, ?_⟩
          · rw [pairsD_app, pd]
            show pairsD [.tup [keyW kk, vw]] acc = _
            unfold pairsD
            rw [if_pos hk]
            rfl
          · have : (fun (zs : List W) (h2 : Hs) => finD (ps ++ ([.tup [keyW kk, vw]] ++ zs)) h2) = fun zs h2 => finD (ps ++ [.tup [keyW kk, vw]] ++ zs) h2 := by funext zs h2; rw [List.append_assoc]
            simp only [bind_ok] at oo6
            rw [this] at oo6
            exact oo6
        · rw [if_neg hk] at oo6; exact (show False from oo6).elim
  · have ei : i = sv.items.length := by omega
    subst ei
    refine .inl ⟨wk.stops H' hG, ?_⟩
    rw [List.drop_length, compGo, if_pos hg, bind_ok, List.append_nil] at oo
    unfold finD at oo
    rw [pd] at oo
    have k2 : CellOk X.K A (m' ++ [D]) H' D (.dct acc) := ⟨ks, hv, relKV_more (fun r a e => by rw [List.getElem?_append_left (getE_lt e)]; exact e) _ _ rk⟩
    refine oo (m' ++ [D]) H' (.ref D) ⟨fun r a e => by rw [List.getElem?_append_left (getE_lt (st.pre r a e))]; exact st.pre r a e, st.fr, st.tp, fun a ha => ?_, st.fz⟩ (hr'.moreC nD k2) ⟨D, grown_at hr', rfl⟩
    rcases List.mem_append.mp ha with z | z
    · exact st.nw a z
    · rw [List.mem_singleton.mp z]; exact .inr hD
theorem s_dcomp (C : Cok G N A T cal k X sc) {ke ve : Ex} {t : Tg} {s : Sr} {c : Cnd} {ws0 : List Nat} {ek el tg it : Expr} {ifs : List Expr} {pos : Pos} (gi : good it = true) (hb : trB N sc sc' ws0 = true) (ht : trT N sc' t tg = true) (hs : SR A T X tg it (evSr T cal s))
    (hc : ∀ X', BX X sc' X' → SB A T X' ifs (evC T cal c)) (hK : ∀ X', BX X sc' X' → SE A T X' ek (evE T cal ke)) (hE : ∀ X', BX X sc' X' → SE A T X' el (evE T cal ve)) : SE A T X (.DictComp ek el [⟨tg, it, ifs, 0⟩] sc' pos) (evE T cal (.dcomp ke ve t s c ws0)) := by
  have := s_lockE (s := s) (dcomp_core (pos := pos) C gi hb ht hs hc hK hE)
  intro Wx tk m H σ env h Q hr he o
  rw [evE] at o
  exact this Wx tk m H σ env h Q hr he o
end
end MP
end

section
set_option Elab.async false
set_option linter.all false
set_option maxRecDepth 100000
set_option maxHeartbeats 8000000
/-! MiniPy: lists made by list(..), sorted(..), + and *. -/
namespace MP
open PySem PySem.Spec PyProof.Rows L2

section
variable {G : Glo} {N : List Str} {A : Nm} {T : Tab} {cal : Nat → List W → Hs → R W} {k : Nat} {X : Cx} {sc sc' : Scope}
theorem RelQ.lst {K : PySem.W.Frag} {H0 H : Hp} {m : Mp} {h : Hs} {sv : Sv} {v : V} (hr : HRel K A m h H) (r : RelQ A K H0 m H sv v) (hl : sv.lst = true) (hg : gOk sv.g h = true) : ∃ p vs, v = .ref p ∧ H p = some (.lst vs) ∧ RelWs K A m H sv.items vs := by
  unfold Sv.lst at hl
  rcases r with ⟨⟨D, vs, e, hD, _, _, rv⟩, _⟩ | ⟨w, r, e⟩
  · exact ⟨D, vs, e, hD, rv⟩
  · cases w with
    | tup xs => rw [(show sv = _ from e)] at hl; cases hl
    | str x => rw [(show sv = _ from e)] at hl; cases hl
    | ref n =>
      obtain ⟨p, e1, rfl⟩ := rel_ref r
      obtain ⟨c, eg, z⟩ := (show ∃ c, _ from e)
      rw [eg] at hg hl
      have ec : h[n]? = some c := of_decide_eq_true hg
      have ck := hr.cell _ _ _ ec e1
      rcases z with ⟨rfl, _⟩ | ⟨rfl, _⟩ | ⟨kvs, rfl, _, q⟩
      · obtain ⟨vs, q, rv⟩ := ck; exact ⟨p, vs, rfl, q, rv⟩
      · cases hl
      · cases hl
    | _ => exact (show False from e).elim
theorem s_cat {a b : Sq} {l r : Expr} {pos : Pos} (ha : SQ A T X l (evSq T cal a)) (hb : SQ A T X r (evSq T cal b)) : SL A T X (.BinOp l .Add r pos) (evL T cal (.cat a b)) := by
  intro Wx tk m H σ env h Q hr he o
  refine tE_of (pe_op op_w pe_w pe_w) ?_
  rw [evL] at o
  refine ha Wx tk m H σ env h _ hr he (Out.bind o fun sv h1 m1 H1 x e1 s1 hr1 r1 o1 => ?_)
  refine hb Wx tk m1 H1 σ env h1 _ hr1 (he.mono s1) (Out.bind o1 fun su h2 m2 H2 y e2 s2 hr2 r2 o2 => ?_)
  obtain ⟨hc, o2⟩ := out_if o2
  simp only [Bool.and_eq_true, decide_eq_true_eq] at hc
  obtain ⟨⟨⟨hg, hl1⟩, hl2⟩, hz⟩ := hc
  obtain ⟨p1, vs, rfl, hq, rv⟩ := (r1.mono s2).lst hr2 hl1 hg
  obtain ⟨p2, us, rfl, hq2, ru⟩ := r2.lst hr2 hl2 (evSq_g e2)
  exact tO_of op_cat ⟨p1, p2, vs, us, rfl, rfl, hq, hq2, by rw [sz, ← rv.length, ← ru.length]; exact hz, fun p n => out_lstD (s1.trans s2) hr2 (rv.append ru) o2 p n⟩
theorem s_rep {a : Sq} {e : Ex} {l r : Expr} {pos : Pos} (ha : SQ A T X l (evSq T cal a)) (hb : SE A T X r (evE T cal e)) : SL A T X (.BinOp l .Mult r pos) (evL T cal (.rep a e)) := by
  intro Wx tk m H σ env h Q hr he o
  refine tE_of (pe_op op_w pe_w pe_w) ?_
  rw [evL] at o
  refine ha Wx tk m H σ env h _ hr he (Out.bind o fun sv h1 m1 H1 x e1 s1 hr1 r1 o1 => ?_)
  refine hb Wx tk m1 H1 σ env h1 _ hr1 (he.mono s1) (Out.bind o1 fun w h2 m2 H2 y e2 s2 hr2 r2 o2 => ?_)
  cases w with
  | int n =>
    obtain ⟨hc, o2⟩ := out_if o2
    simp only [Bool.and_eq_true, decide_eq_true_eq, okIx] at hc
    obtain ⟨⟨⟨hg, hl1⟩, hn⟩, hz⟩ := hc
    obtain ⟨p1, vs, rfl, hq, rv⟩ := (r1.mono s2).lst hr2 hl1 hg
    exact tO_of op_rep ⟨p1, n, vs, rfl, r2, hq, by omega, by omega, by rw [sz, ← rv.length]; exact hz, fun p z => out_lstD (s1.trans s2) hr2 (rv.rep _) o2 p z⟩
  | _ => exact (show False from o2).elim
/-! ### sorted -/
theorem insI_perm (x : Int) : ∀ l : List Int, (insI x l).Perm (x :: l)
  | [] => .refl _
  | y :: r => by
    unfold insI
    split
    · exact .refl _
    · exact ((insI_perm x r).cons y).trans (.swap x y r)
theorem sortI_perm' : ∀ l : List Int, (sortI l).Perm l
  | [] => .refl _
  | x :: r => (insI_perm x _).trans ((sortI_perm' r).cons x)
theorem insI_pw (x : Int) : ∀ {l : List Int}, l.Pairwise (· ≤ ·) → (insI x l).Pairwise (· ≤ ·)
  | [], _ => by unfold insI; exact List.pairwise_singleton _ _
  | y :: r, h => by
    unfold insI
    have hy := List.pairwise_cons.mp h
    split
    · rename_i hx
      exact List.pairwise_cons.mpr ⟨fun z hz => by
        rcases List.mem_cons.mp hz with rfl | hz
        · exact hx
        · exact Int.le_trans hx (hy.1 z hz), h⟩
    · rename_i hx
      exact List.pairwise_cons.mpr ⟨fun z hz => by
        rcases List.mem_cons.mp ((insI_perm x r).mem_iff.mp hz) with rfl | hz
        · omega
        · exact hy.1 z hz, insI_pw x hy.2⟩
theorem sortI_pw : ∀ l : List Int, (sortI l).Pairwise (· ≤ ·)
  | [] => .nil
  | x :: r => insI_pw x (sortI_pw r)
theorem relWs_ints {K : PySem.W.Frag} {m : Mp} {H : Hp} : ∀ ns : List Int, RelWs K A m H (ns.map .int) (ns.map V.int)
  | [] => rfl
  | n :: ns => ⟨V.int n, _, rfl, rfl, relWs_ints ns⟩
theorem s_sorted (C : Cok G N A T cal k X sc) {s : Sq} {x : Str} {y : Expr} {p pos : Pos} (h1 : nmB G sc x "sorted" = true) (gy : good y = true) (sq : SQ A T X y (evSq T cal s)) : SL A T X (.Call (.Name x p) [y] [] pos) (evL T cal (.sorted s)) := by
  intro Wx tk m H σ env h Q hr he o
  rw [evL] at o
  refine tE_of (s_callV C (v := .builtin "sorted") h1 (by decide +kernel) (.inl ⟨_, rfl⟩) (e := y) (es := []) (by rw [List.all_cons, gy]; rfl) (pa_cons pe_w pa_nil (star_cons gy [] _))) ?_
  refine sq Wx tk m H σ env h _ hr he (Out.bind o fun sv h1 m1 H1 v e1 s1 hr1 r1 o1 => ?_)
  obtain ⟨hl, o1⟩ := out_if o1
  obtain ⟨q, vs, rfl, hq, rv⟩ := r1.list hr1 hl (evSq_g e1)
  obtain ⟨ns, en, o1⟩ := out_optm o1
  obtain rfl := allI_rel en rv
  refine tC_of cr_sortedI ⟨q, ns, rfl, hq, fun ns' p' hp hw n => ?_⟩
  have e : ns' = sortI ns := List.Perm.eq_of_pairwise (fun _ _ _ _ a b => Int.le_antisymm a b) hw (sortI_pw ns) (hp.trans (sortI_perm' ns).symm)
  rw [e]
  exact out_lstD s1 hr1 (relWs_ints _) o1 p' n
/-! ### list(range(..)) -/
theorem rngS_len (lo c : Int) : ∀ n, (rngS lo c n).length = n
  | 0 => rfl
  | n + 1 => by rw [rngS, List.length_cons, rngS_len]
theorem rngS_at : ∀ (n : Nat) (lo c : Int) (i : Nat), i < n → (rngS lo c n)[i]? = some (.int (lo + i * c))
  | 0, _, _, _, h => by omega
  | n + 1, lo, c, 0, _ => by simp [rngS]
  | n + 1, lo, c, i + 1, h => by
    rw [rngS, List.getElem?_cons_succ, rngS_at n (lo + c) c i (by omega)]
    congr 2
    have : ((i + 1 : Nat) : Int) * c = (i : Int) * c + c := by rw [Int.natCast_add, Int.add_mul, Int.natCast_one, Int.one_mul]
    rw [this]
    omega
def rgVS (a c : Int) (n : Nat) : List V := (List.range n).map fun i => V.int (a + (i : Nat) * c)
theorem vals_rgS {a c : Int} {n : Nat} {acc : Array Value} (h : ItemsOf (fun i v => ∃ t, v = .int (a + i * c) t) acc n) : Vals (rgVS a c n) acc.toList := by
  have e : acc.toList.length = n := by rw [Array.length_toList]; exact h.1
  unfold rgVS
  rw [← e]
  refine vals_of_get acc.toList _ fun j u hj => ?_
  obtain ⟨t, rfl⟩ := h.2 j u (by rw [← hj, Array.getElem?_toList])
  exact ⟨t, rfl⟩
theorem relWs_of_get {K : PySem.W.Frag} {m : Mp} {H : Hp} : ∀ (ws : List W) (vs : List V), ws.length = vs.length → (∀ (i : Nat) w v, ws[i]? = some w → vs[i]? = some v → RelW K A m H w v) → RelWs K A m H ws vs
  | [], [], _, _ => rfl
  | [], _ :: _, h, _ => by simp at h
  | _ :: _, [], h, _ => by simp at h
  | w :: ws, v :: vs, h, q => ⟨v, vs, rfl, q 0 w v rfl rfl, relWs_of_get ws vs (by simpa using h) fun i a b e1 e2 => q (i + 1) a b (by simpa using e1) (by simpa using e2)⟩
theorem relWs_rng {K : PySem.W.Frag} {m : Mp} {H : Hp} (a c : Int) (n : Nat) : RelWs K A m H (rngS a c n) (rgVS a c n) := by
  refine relWs_of_get _ _ (by rw [rngS_len]; simp [rgVS]) fun i w v e1 e2 => ?_
  have lt : i < n := by have := getE_lt e1; rw [rngS_len] at this; exact this
  rw [rngS_at n a c i lt] at e1
  cases e1
  simp only [rgVS, List.getElem?_map, List.getElem?_range lt, Option.map_some, Option.some.injEq] at e2
  exact e2.symm
theorem rngL_S (lo : Int) : ∀ n, rngL lo n = rngS lo 1 n
  | 0 => rfl
  | n + 1 => by rw [rngL, rngS, rngL_S (lo + 1) n]
/-- a range object just made -/
structure RgAt (X : Cx) (a c : Int) (n : Nat) (v : Value) (s : Shared) : Prop where
  at_ : ∃ r b t u w, v = .ref r ∧ IsRange s.heap r a b c t u w ∧ Builtin.Range.small a b c = true ∧ Builtin.Range.rangeSize a b c = (n : Int) ∧ n ≤ 2 ^ 24
theorem s_rangeV (C : Cok G N A T cal k X sc) {y : Str} {q pos : Pos} {es : Exs} {xs : List Expr} (h2 : nmB G sc y "range" = true) (al : AllSE A T cal X es xs) {Wx : WX} (tk : Takes X Wx) {m : Mp} {H : Hp} {σ : L2.St} {env : Env} {h : Hs} {Q : List W → Mp → Hs → Hp → Prop} (hr : HRel X.K A m h H) (he : EnvR X.K A m H env σ)
    (o : OutL X.K A T m H (evEs T cal es env h) (fun _ _ => True) (fun c d H' => Wx c d σ H'))
    (q0 : ∀ ws h1 m1 H1 vs, evEs T cal es env h = .ok ws h1 → Stp m H m1 H1 → HRel X.K A m1 h1 H1 → RelWs X.K A m1 H1 ws vs → (∃ sv, rngOf h1 ws = .ok sv h1) ∧ Q ws m1 h1 H1) :
    ∀ pins s, Inv X pins σ H s → wpAny (model X.prog X.w) X.A (eval (.Call (.Name y q) xs [] pos) X.env) (fun v s' => ∃ ws m1 h1 H1 a c n, Inv X pins σ H1 s' ∧ Q ws m1 h1 H1 ∧ RgAt X a c n v s' ∧ ∃ sv, rngOf h1 ws = .ok sv h1 ∧ sv.items = rngS a c n) X.xe s := by
  intro pins s I
  obtain ⟨rfl, g1, g2, hm, hn⟩ := nmB_gl C h2
  cases xs with
  | nil =>
    cases es with
    | cons _ _ => exact al.elim
    | nil =>
      obtain ⟨⟨sv, z⟩, _⟩ := q0 [] h m H [] rfl .rfl' hr rfl
      cases z
  | cons e0 er =>
    have g := al.good
    rw [List.all_cons, Bool.and_eq_true] at g
    have key := s_all al Wx tk m H σ env h (fun vs H1 => ∃ ws h1 m1, RelWs X.K A m1 H1 ws vs ∧ (∃ sv, rngOf h1 ws = .ok sv h1) ∧ Q ws m1 h1 H1) hr he (by
      cases ee : evEs T cal es env h with
      | ok ws h1 => intro m1 H1 vs s1 hr1 rv; exact ⟨ws, h1, m1, rv, q0 ws h1 m1 H1 vs ee s1 hr1 rv⟩
      | raise c vs h1 => rw [ee] at o; exact o
      | stuck => rw [ee] at o; exact o)
    refine Call_ (ld_blt I g1 hm boot_range (PyProof.Rows.callWith_type1 (thn (key pos pins s I) fun us s1 ⟨vs, H1, I1, r1, ws, h1, m1, rv, ⟨sv, hs⟩, qq⟩ => ?_) (star_cons g.1 er _) (stars g.2 _ _)))
    have hs0 := hs
    unfold rngOf at hs
    split at hs
    · rename_i n
      split at hs
      · rename_i c
        cases hs
        simp only [okIx, decide_eq_true_eq] at c
        obtain ⟨v, rfl, r2⟩ := rel1 rv
        obtain ⟨u, rfl, ru⟩ := r1.one
        rw [(show v = V.int n from r2)] at ru
        obtain ⟨t, rfl⟩ := ru
        refine call_range_1 ⟨_, m1, h1, H1, 0, 1, n.toNat, I1.kept fun b u e => Heap.get?_push_of_some _ e, qq, ⟨_, n, _, _, _, rfl, IsRange.new _ _ _ _ _ _ _, small_one (by omega) (by omega) c.1.1 c.1.2, ?_, by have := c.2; simp [SZ] at this; omega⟩, _, hs0, rngL_S _ _⟩
        have := rangeSize_nat 0 n
        simpa using this
      · cases hs
    · rename_i a b
      split at hs
      · rename_i c
        cases hs
        simp only [okIx, decide_eq_true_eq] at c
        obtain ⟨v, v2, rfl, r2, r3⟩ := rel2 rv
        obtain ⟨u, u2, rfl, ru, ru2⟩ := r1.two
        rw [(show v = V.int a from r2)] at ru
        rw [(show v2 = V.int b from r3)] at ru2
        obtain ⟨t, rfl⟩ := ru
        obtain ⟨t2, rfl⟩ := ru2
        exact call_range_2 ⟨_, m1, h1, H1, a, 1, (b - a).toNat, I1.kept fun b u e => Heap.get?_push_of_some _ e, qq, ⟨_, b, _, _, _, rfl, IsRange.new _ _ _ _ _ _ _, small_one (by omega) (by omega) (by omega) (by omega), rangeSize_nat a b, by have := c.2.2; simp [SZ] at this; omega⟩, _, hs0, rngL_S _ _⟩
      · cases hs
    · rename_i a b c
      split at hs
      · rename_i cc
        cases hs
        obtain ⟨c1, c2, c3, c4, c5⟩ := cc
        obtain ⟨v, t, e, r2, rt⟩ := rv
        obtain ⟨v2, v3, et, r3, r4⟩ := rel2 rt
        subst et; subst e
        rw [(show v = V.int a from r2), (show v2 = V.int b from r3), (show v3 = V.int c from r4)] at r1
        cases r1 with
        | cons ra rr =>
          cases rr with
          | cons rb rr =>
            cases rr with
            | cons rc rr =>
              cases rr
              obtain ⟨t, rfl⟩ := ra
              obtain ⟨t', rfl⟩ := rb
              obtain ⟨t'', rfl⟩ := rc
              refine call_range_3 (by omega) ⟨_, m1, h1, H1, a, c, _, I1.kept (t' := s1.toks) fun b u e => Heap.get?_push_of_some _ e, qq, ⟨_, b, _, _, _, rfl, IsRange.new _ _ _ _ _ _ _, c3, (Int.toNat_of_nonneg c4).symm, by omega⟩, _, hs0, rfl⟩ (.inl (PyProof.noPylong_small (by omega)))
      · cases hs
    · cases hs
theorem evEs_rng {es : Exs} {env : Env} {h : Hs} {m : Mp} {H : Hp} {K : PySem.W.Frag} {Rl : Mp → Hp → List W → V → Prop} {Q : VK} {E : XK} (o : Out K A T Rl m H ((evEs T cal es env h).bind fun ws h1 => (rngOf h1 ws).bind fun v h2 => .ok v.items h2) Q E) :
    OutL K A T m H (evEs T cal es env h) (fun _ _ => True) E ∧ ∀ ws h1, evEs T cal es env h = .ok ws h1 → ∃ sv, rngOf h1 ws = .ok sv h1 ∧ Out K A T Rl m H (.ok sv.items h1) Q E := by
  cases ee : evEs T cal es env h with
  | ok ws h1 =>
    rw [ee] at o
    refine ⟨fun _ _ _ _ _ _ => trivial, fun ws' h1' e => ?_⟩
    cases e
    have o : Out K A T Rl m H ((rngOf h1 ws).bind fun v h2 => .ok v.items h2) Q E := o
    cases er : rngOf h1 ws with
    | ok sv h2 =>
      have e2 : h2 = h1 := by
        unfold rngOf at er
        split at er <;> first | (split at er <;> first | (cases er; rfl) | cases er) | cases er
      subst e2
      rw [er] at o
      exact ⟨sv, rfl, o⟩
    | raise c vs h2 =>
      exfalso
      unfold rngOf at er
      split at er <;> first | (split at er <;> cases er) | cases er
    | stuck => rw [er] at o; exact (show False from o).elim
  | raise c vs h1 => rw [ee] at o; exact ⟨o, fun _ _ e => nomatch e⟩
  | stuck => rw [ee] at o; exact (show False from o).elim
theorem s_lrng (C : Cok G N A T cal k X sc) {x y : Str} {p q pos pos2 : Pos} {es : Exs} {xs : List Expr} (h1 : nmB G sc x "list" = true) (h2 : nmB G sc y "range" = true) (al : AllSE A T cal X es xs) : SL A T X (.Call (.Name x p) [.Call (.Name y q) xs [] pos2] [] pos) (evL T cal (.lrng es)) := by
  intro Wx tk m H σ env h Q hr he o pins s I
  rw [evL] at o
  obtain ⟨rfl, g1, g2, hm, hn⟩ := nmB_gl C h1
  obtain ⟨oa, ob⟩ := evEs_rng o
  have key := s_rangeV C (q := q) (pos := pos2) h2 al tk (Q := fun ws m1 h1 H1 => Stp m H m1 H1 ∧ HRel X.K A m1 h1 H1 ∧ ∃ sv, rngOf h1 ws = .ok sv h1 ∧ Out X.K A T (RelD A X.K H) m H (.ok sv.items h1) Q (fun c d H' => Wx c d σ H')) hr he oa (fun ws h1 m1 H1 vs e s1 hr1 rv => by
    obtain ⟨sv, e1, o1⟩ := ob ws h1 e
    exact ⟨⟨sv, e1⟩, s1, hr1, sv, e1, o1⟩) pins s I
  have na : starEach [.Call (.Name y q) xs [] pos2] X.env = (false, eval (.Call (.Name y q) xs [] pos2) X.env) :: starEach [] X.env := rfl
  refine Call_ (ld_blt I g1 hm boot_list (PyProof.Rows.callWith_type1 (args_cons (thn key fun v s1 ⟨ws, m1, h1, H1, a, c, n, I1, ⟨st, hr1, sv, e1, o1⟩, ra, sv2, e2, e3⟩ => args_nil ?_) na) na))
  obtain ⟨r, b, t, u, w, rfl, hrg, hsm, hsz, hn24⟩ := ra
  rw [e1] at e2; cases e2
  refine call_list_range (n := n) (I1.ok.hd C.calm) hrg hsm hsz hn24 fun h' tk' acc c' hk e' hi => ?_
  have fr : H1 s1.heap.objs.size = none := I1.hok.fresh (Nat.le_refl _)
  refine ⟨.ref s1.heap.objs.size, upd H1 s1.heap.objs.size (.lst (rgVS a c n)), I1.laid hk (Nat.le_refl _) (show ObjOk X.prog X.w _ _ _ (.lst (rgVS a c n)) from ⟨?_, acc.toList, c', vals_rgS hi, ?_⟩), rfl, ?_⟩
  · rw [sizeLine_eq]; simp [rgVS]; omega
  · rw [Array.toArray_toList]; exact e'
  · rw [e3] at o1
    exact out_lstD st hr1 (relWs_rng a c n) (Out.step o1 st) _ fr
end
end MP
end

section
set_option Elab.async false
set_option linter.all false
set_option maxRecDepth 100000
set_option maxHeartbeats 8000000
/-! MiniPy: list(d.items()); the expressions together. -/
namespace MP
open PySem PySem.Spec PyProof.Rows L2

section
variable {G : Glo} {N : List Str} {A : Nm} {T : Tab} {cal : Nat → List W → Hs → R W} {k : Nat} {X : Cx} {sc sc' : Scope}
theorem Stp.ext {m : Mp} {H H' : Hp} (e : ∀ b o, H b = some o → H' b = some o) : Stp m H m H' where
  pre := fun _ _ h => h
  fr := fun a o h _ => e a o h
  tp := fun a vs z => by
    rcases z with z | ⟨u, z⟩
    · exact .inl (e _ _ z)
    · exact .inr ⟨u, e _ _ z⟩
  nw := fun _ h => .inl h
  fz := fun a o u h => e _ _ h
theorem HRel.ext {K : PySem.W.Frag} {m : Mp} {h : Hs} {H H' : Hp} (R : HRel K A m h H) (e : ∀ b o, H b = some o → H' b = some o) : HRel K A m h H' where
  len := R.len
  nd := R.nd
  cell := fun r c a e1 e2 => (R.cell r c a e1 e2).mono (Stp.ext e) (by
    obtain ⟨o, q⟩ := R.has (mem_of_get e2)
    rw [q, e _ _ q])
theorem relWs_items {K : PySem.W.Frag} {m : Mp} {H : Hp} : ∀ {kvs : List (W × W)} {ks : List (Key × V)} {ts : List Addr}, RelKV K A m H kvs ks → Paired (fun (t : Addr) (q : Key × V) => H t = some (.tup [L2.kV q.1, q.2])) ts ks → RelWs K A m H (kvs.map fun p => .tup [p.1, p.2]) (ts.map V.ref)
  | [], _, ts, e, p => by
    rw [(show _ = [] from e)] at p
    cases p
    rfl
  | (a, u) :: r, _, ts, ⟨k', v', ks, e, ek, rv, t⟩, p => by
    subst e
    have ek' : a = keyW k' := ek
    subst ek'
    cases p with
    | cons h tl => exact ⟨_, _, rfl, ⟨_, _, rfl, .inl (.inl h), .cons (keyW_rel k') (.cons rv .nil)⟩, relWs_items t tl⟩
theorem s_litems (C : Cok G N A T cal k X sc) {e : Ex} {o : Expr} {x y : Str} {p ap cp pos : Pos} (h1 : nmB G sc x "list" = true) (hy : y = "items") (h2 : notC0 o = true) (h3 : (ap.endLine == cp.line) = true) (se : SE A T X o (evE T cal e)) :
    SL A T X (.Call (.Name x p) [.Call (.Attribute o y ap) [] [] cp] [] pos) (evL T cal (.litems e)) := by
  subst hy
  intro Wx tk m H σ env h Q hr he out
  obtain ⟨rfl, g1, g2, hm, hn⟩ := nmB_gl C h1
  rw [evL] at out
  refine tE_of (LiI.pe_listItems C.calm pe_w g1 hm boot_list (base_of h2 _ _ _) h3) ?_
  refine se Wx tk m H σ env h _ hr he (Out.bind out fun w h1 m1 H1 v e1 s1 hr1 r1 o1 => ?_)
  cases w with
  | ref n =>
    obtain ⟨d, e2, rfl⟩ := rel_ref r1
    dsimp only at o1
    split at o1
    · rename_i kvs ec
      obtain ⟨ks, q, rk⟩ := hr1.cell _ _ _ ec e2
      refine ⟨d, ks, rfl, q, fun H' p' ts ex n1 n2 n3 hp hts => ?_⟩
      have hr2 := hr1.ext ex
      refine o1 m1 H' _ (Stp.ext ex) hr2 ⟨p', ts.map V.ref, rfl, hp, fun z => ?_, fresh_back s1 hr1 n1, relWs_items (rk.mono (Stp.ext ex)) hts⟩
      obtain ⟨u, z⟩ := hr1.has z
      rw [n1] at z; cases z
    · exact (show False from o1).elim
  | _ => exact (show False from o1).elim
/-! ### sorted(set(..)) -/
def rSetL (K : PySem.W.Frag) (w : World) : List V → Hp → VK → Prop := fun vs H Q => ∃ (a : Addr) (ns : List Int), vs = [.ref a] ∧ SqL K H a (ns.map V.int) ∧ (sortU ns).length + 1 < scanBound ∧
  ∀ p, H p = none → Q (.ref p) (upd H p (SetO w p (fun j => decide (j ∈ ns)) (sortU ns).length))
theorem call_setL (hc : X.calm = true) : CallR X (.type "set") (rSetL X.K X.w) := by
  intro pins s σ H vs us Q I r h
  obtain ⟨a, ns, rfl, hs, hb, q⟩ := h
  obtain ⟨its, rv, hl, hz⟩ := I.list hs
  rw [Vals.ref1 r]
  refine mp_set_list ns (I.ok.hd hc) hl.isList (by simpa using rv.ints) hb fun h' tk R k => ?_
  exact ⟨.ref s.heap.objs.size, _, I.laid (t' := tk) k (Nat.le_refl _) (setO_new R), rfl, q _ (I.hok.fresh (Nat.le_refl _))⟩
def rSortSet (w : World) : List V → Hp → VK → Prop := fun vs H Q => ∃ (a : Addr) (S : Int → Bool) (n : Nat), vs = [V.ref a] ∧ H a = some (SetO w a S n) ∧ n ≤ sizeLine ∧
  ∀ (ns : List Int) (p : Addr), ns.Pairwise (· < ·) → (∀ k : Int, k ∈ ns ↔ S k = true) → H p = none → Q (.ref p) (upd H p (.lst (ns.map V.int)))
theorem call_sortSet (hc : X.calm = true) : CallR X (.builtin "sorted") (rSortSet X.w) := by
  intro pins s σ H vs us Q I r h
  obtain ⟨a, S, n, rfl, ha, hz, q⟩ := h
  have R := setO_get I ha
  rw [Vals.ref1 r]
  refine mp_sorted_set R (I.ok.hd hc) hz fun s' p out c ns k g o hp hg hi hs hm hl => ?_
  have hlen : (ns.map V.int).length ≤ sizeLine := by rw [List.length_map, hl]; exact hz
  have hn : H p = none := I.hok.fresh hp
  have J : Inv X pins σ (upd H p (.lst (ns.map V.int))) { s with heap := s'.heap, gens := s'.gens, drawn := s'.drawn, toks := s'.toks } :=
    I.call (ch := []) (Un.laid k hp hn) (I.hok.laid k hp ⟨hlen, out, c, vals_of_ints hi, hg⟩) (by rw [g]; exact I.bare) (fun _ z => nomatch z)
  have e : s' = { s with heap := s'.heap, gens := s'.gens, drawn := s'.drawn, toks := s'.toks } := by
    cases s'
    cases s
    cases o
    rfl
  rw [e]
  exact ⟨.ref p, _, J, rfl, q ns p hs hm hn⟩
theorem s_sortedSet (C : Cok G N A T cal k X sc) {s : Sq} {x z : Str} {y : Expr} {p p2 pos pos2 : Pos} (h1 : nmB G sc x "sorted" = true) (h2 : nmB G sc z "set" = true) (gy : good y = true) (sq : SQ A T X y (evSq T cal s)) : SL A T X (.Call (.Name x p) [.Call (.Name z p2) [y] [] pos2] [] pos) (evL T cal (.sortedSet s)) := by
  intro Wx tk m H σ env h Q hr he o
  rw [evL] at o
  refine tE_of (s_callV C (v := .builtin "sorted") h1 (by decide +kernel) (.inl ⟨_, rfl⟩) (e := .Call (.Name z p2) [y] [] pos2) (es := []) rfl (pa_cons (s_callV C (v := .type "set") h2 (by decide +kernel) (.inr ⟨_, rfl⟩) (e := y) (es := []) (by rw [List.all_cons, gy]; rfl) (pa_cons pe_w pa_nil (star_cons gy [] _))) pa_nil rfl)) ?_
  refine sq Wx tk m H σ env h _ hr he (Out.bind o fun sv h1 m1 H1 v e1 s1 hr1 r1 o1 => ?_)
  obtain ⟨hl, o1⟩ := out_if o1
  obtain ⟨q, vs, rfl, hq, rv⟩ := r1.list hr1 hl (evSq_g e1)
  obtain ⟨w2, ew, o1⟩ := out_opt o1
  obtain ⟨ns, en, ew⟩ := Option.bind_eq_some_iff.mp ew
  split at ew <;> first | (cases ew; done) | skip
  rename_i hlt
  cases ew
  obtain rfl := allI_rel en rv
  refine tC_of (call_setL C.calm) ⟨q, ns, rfl, hq, by unfold scanBound; omega, fun p1 n1 => ?_⟩
  have ex : ∀ b o, H1 b = some o → upd H1 p1 (SetO X.w p1 (fun j => decide (j ∈ ns)) (sortU ns).length) b = some o := fun b o e => by rw [upd_ne (ne_of_none e n1)]; exact e
  refine tC_of (call_sortSet C.calm) ⟨p1, _, _, rfl, upd_same, by rw [sizeLine_eq]; omega, fun ns' p2 hp hm n2 => ?_⟩
  have e : ns' = sortU ns := sortU_eq hp fun k => (hm k).trans (by simp)
  rw [e]
  exact out_lstD (s1.trans (Stp.ext ex)) (hr1.ext ex) (relWs_ints _) (Out.step o1 (Stp.ext ex)) p2 n2
end
end MP
end

section
set_option Elab.async false
set_option linter.all false
set_option maxRecDepth 100000
set_option maxHeartbeats 16000000
/-! MiniPy: the expressions together. -/
namespace MP
open PySem PySem.Spec PyProof.Rows L2

theorem asName_eq {e : Expr} {r} (h : asName e = some r) : e = (.Name r.1 r.2) := by
  unfold asName at h
  split at h <;> first | (cases h; rfl) | cases h
theorem asConst_eq {e : Expr} {r} (h : asConst e = some r) : e = (.Constant r.1 r.2.1 r.2.2) := by
  unfold asConst at h
  split at h <;> first | (cases h; rfl) | cases h
theorem asBin_eq {e : Expr} {r} (h : asBin e = some r) : e = (.BinOp r.1 r.2.1 r.2.2.1 r.2.2.2) := by
  unfold asBin at h
  split at h <;> first | (cases h; rfl) | cases h
theorem asUn_eq {e : Expr} {r} (h : asUn e = some r) : e = (.UnaryOp r.1 r.2.1 r.2.2) := by
  unfold asUn at h
  split at h <;> first | (cases h; rfl) | cases h
theorem asCmp_eq {e : Expr} {r} (h : asCmp e = some r) : e = (.Compare r.1 [r.2.1] [r.2.2.1] r.2.2.2) := by
  unfold asCmp at h
  split at h <;> first | (cases h; rfl) | cases h
theorem asCmp2_eq {e : Expr} {r} (h : asCmp2 e = some r) : e = (.Compare r.1 [r.2.1, r.2.2.1] [r.2.2.2.1, r.2.2.2.2.1] r.2.2.2.2.2) := by
  unfold asCmp2 at h
  split at h <;> first | (cases h; rfl) | cases h
theorem asCmp3_eq {e : Expr} {r} (h : asCmp3 e = some r) : e = (.Compare r.1 [r.2.1, r.2.2.1, r.2.2.2.1] [r.2.2.2.2.1, r.2.2.2.2.2.1, r.2.2.2.2.2.2.1] r.2.2.2.2.2.2.2) := by
  unfold asCmp3 at h
  split at h <;> first | (cases h; rfl) | cases h
theorem asAnd_eq {e : Expr} {r} (h : asAnd e = some r) : e = (.BoolOp .And (r.1 :: r.2.1 :: r.2.2.1) r.2.2.2) := by
  unfold asAnd at h
  split at h <;> first | (cases h; rfl) | cases h
theorem asOr_eq {e : Expr} {r} (h : asOr e = some r) : e = (.BoolOp .Or (r.1 :: r.2.1 :: r.2.2.1) r.2.2.2) := by
  unfold asOr at h
  split at h <;> first | (cases h; rfl) | cases h
theorem asIf_eq {e : Expr} {r} (h : asIf e = some r) : e = (.IfExp r.1 r.2.1 r.2.2.1 r.2.2.2) := by
  unfold asIf at h
  split at h <;> first | (cases h; rfl) | cases h
theorem asTup_eq {e : Expr} {r} (h : asTup e = some r) : e = (.Tuple r.1 r.2.1 r.2.2) := by
  unfold asTup at h
  split at h <;> first | (cases h; rfl) | cases h
theorem asList_eq {e : Expr} {r} (h : asList e = some r) : e = (.List r.1 r.2) := by
  unfold asList at h
  split at h <;> first | (cases h; rfl) | cases h
theorem asSub_eq {e : Expr} {r} (h : asSub e = some r) : e = (.Subscript r.1 r.2.1 r.2.2) := by
  unfold asSub at h
  split at h <;> first | (cases h; rfl) | cases h
theorem asSlice_eq {e : Expr} {r} (h : asSlice e = some r) : e = (.Subscript r.1 (.Slice r.2.1 r.2.2.1 none r.2.2.2.1) r.2.2.2.2) := by
  unfold asSlice at h
  split at h <;> first | (cases h; rfl) | cases h
theorem asAttr_eq {e : Expr} {r} (h : asAttr e = some r) : e = (.Attribute r.1 r.2.1 r.2.2) := by
  unfold asAttr at h
  split at h <;> first | (cases h; rfl) | cases h
theorem asCall_eq {e : Expr} {r} (h : asCall e = some r) : e = (.Call (.Name r.1 r.2.1) r.2.2.1 r.2.2.2.1 r.2.2.2.2) := by
  unfold asCall at h
  split at h <;> first | (cases h; rfl) | cases h
theorem asMeth_eq {e : Expr} {r} (h : asMeth e = some r) : e = (.Call (.Attribute r.1 r.2.1 r.2.2.1) r.2.2.2.1 r.2.2.2.2.1 r.2.2.2.2.2) := by
  unfold asMeth at h
  split at h <;> first | (cases h; rfl) | cases h
theorem asDict0_eq {e : Expr} {r} (h : asDict0 e = some r) : e = (.Dict [] [] r) := by
  unfold asDict0 at h
  split at h <;> first | (cases h; rfl) | cases h
theorem asLC_eq {e : Expr} {r} (h : asLC e = some r) : e = (.ListComp r.1 [⟨r.2.1, r.2.2.1, r.2.2.2.1, 0⟩] r.2.2.2.2.1 r.2.2.2.2.2) := by
  unfold asLC at h
  split at h <;> first | (cases h; rfl) | cases h
theorem asDC_eq {e : Expr} {r} (h : asDC e = some r) : e = (.DictComp r.1 r.2.1 [⟨r.2.2.1, r.2.2.2.1, r.2.2.2.2.1, 0⟩] r.2.2.2.2.2.1 r.2.2.2.2.2.2) := by
  unfold asDC at h
  split at h <;> first | (cases h; rfl) | cases h
theorem isEmpty_eq {α : Type} {l : List α} (h : l.isEmpty = true) : l = [] := by cases l <;> first | rfl | cases h
section
variable {G : Glo} {N : List Str} {A : Nm} {T : Tab} {cal : Nat → List W → Hs → R W} {k : Nat} {X : Cx} {sc sc' : Scope}
theorem rel_non {K : PySem.W.Frag} {m : Mp} {H : Hp} {w : W} {v : V} (r : RelW K A m H w v) : decide (v = V.non) = decide (w = W.non) := by
  cases w with
  | non => rw [(show v = V.non from r)]; rfl
  | bl b => rw [(show v = V.bl b from r)]; rfl
  | int b => rw [(show v = V.int b from r)]; rfl
  | str b => rw [(show v = V.str b from r)]; rfl
  | tup ws => obtain ⟨p, vs, rfl, _⟩ := rel_tup r; rfl
  | ref n => obtain ⟨p, _, rfl⟩ := rel_ref r; rfl
  | fn f => rw [(show v = _ from r)]; rfl
  | cls f => rw [(show v = _ from r)]; rfl
  | exn c ws => exact (show False from r).elim
theorem s_isC {pos : Bool} {kk : Option Bool} {c : Const} {p : CmpOp} {a : Ex} {l : Expr} {n : Nat} {q : Pos} (hp : (match p with | .Is => pos | .IsNot => !pos | _ => false) = true) (hk : isK kk c = true) (ha : SE A T X l (evE T cal a)) : SC A T X p l (.Constant c n q) (evE T cal (.isC pos kk a)) := by
  intro Wx tk m H σ env h Q hr he o
  rw [evE] at o
  refine sc_of (ha Wx tk m H σ env h _ hr he (Out.bind o fun w1 h1 m1 H1 x e1 s1 hr1 r1 o1 => ?_))
  cases kk with
  | none =>
    cases c with
    | none =>
      refine tE_of pe_non ?_
      show tO X (compareOp p) x V.non H1 Q
      have q0 := out_ok (v := V.bl (decide (w1 = .non) == pos)) o1 .rfl' hr1 rfl
      cases p <;> first | cases hp | skip
      · exact tO_of op_isN ⟨rfl, by rw [rel_non r1]; simpa using q0⟩
      · cases pos with
        | true => cases hp
        | false => exact tO_of op_notN ⟨rfl, by rw [rel_non r1]; simpa using q0⟩
    | _ => cases hk
  | some b =>
    cases c with
    | bool d =>
      have ebd : b = d := by simpa [isK] using hk
      subst ebd
      refine tE_of pe_bl ?_
      show tO X (compareOp p) x (V.bl b) H1 Q
      cases w1 with
      | bl c0 =>
        have q0 := out_ok (v := V.bl (decide (c0 = b) == pos)) o1 .rfl' hr1 rfl
        cases p <;> first | cases hp | skip
        · exact tO_of op_is_bl ⟨c0, b, r1, rfl, by simpa using q0⟩
        · cases pos with
          | true => cases hp
          | false => exact tO_of op_isnot_bl ⟨c0, b, r1, rfl, by simpa using q0⟩
      | _ => exact (show False from o1).elim
    | _ => cases hk

/-- an expression's text is none of the odd ones, runs as its image, and is tested as its image (but for x if c else y) -/
def OkE (A : Nm) (T : Tab) (cal : Nat → List W → Hs → R W) (X : Cx) (il : Ex) (e : Expr) : Prop := good e = true ∧ SE A T X e (evE T cal il) ∧ (notIte e = true → ST A T X e (evE T cal il))
theorem OkE.plain {il : Ex} {e : Expr} (g : good e = true) (s : SE A T X e (evE T cal il)) (p : plainT e = true) : OkE A T cal X il e := ⟨g, s, fun _ => st_plain s p⟩
theorem OkE.cmp {il : Ex} {l r : Expr} {p : CmpOp} {pos : Pos} (s : SC A T X p l r (evE T cal il)) (gr : good r = true) : OkE A T cal X il (.Compare l [p] [r] pos) := ⟨rfl, (st_cmp s (notSet_marks gr)).1, fun _ => (st_cmp s (notSet_marks gr)).2⟩
theorem good_app {xs ys : List Expr} (h : (xs ++ ys).all good = true) : xs.all good = true := by
  rw [List.all_append, Bool.and_eq_true] at h
  exact h.1

theorem trL_plain {l : Le} {e : Expr} (h : trL G N sc l e = true) : plainT e = true := by
  cases l <;> simp only [trL] at h <;> first | (cases h; done) | skip
  all_goals (split at h <;> first | (cases h; done) | skip)
  all_goals first
    | (rename_i h1; rw [asList_eq h1]; rfl)
    | (rename_i h1; rw [asLC_eq h1]; rfl)
    | (rename_i h1; rw [asCall_eq h1]; rfl)
    | (rename_i h1; rw [asBin_eq h1]; rfl)

def IHE (G : Glo) (N : List Str) (A : Nm) (T : Tab) (cal : Nat → List W → Hs → R W) (k : Nat) (il : Ex) : Prop := ∀ (X : Cx) (sc : Scope), Cok G N A T cal k X sc → ∀ e : Expr, trE G N sc il e = true → OkE A T cal X il e
def IHEs (G : Glo) (N : List Str) (A : Nm) (T : Tab) (cal : Nat → List W → Hs → R W) (k : Nat) (il : Exs) : Prop := ∀ (X : Cx) (sc : Scope), Cok G N A T cal k X sc → ∀ es : List Expr, trEs G N sc il es = true → AllSE A T cal X il es
def IHQ (G : Glo) (N : List Str) (A : Nm) (T : Tab) (cal : Nat → List W → Hs → R W) (k : Nat) (il : Sq) : Prop := ∀ (X : Cx) (sc : Scope), Cok G N A T cal k X sc → ∀ e : Expr, trQ G N sc il e = true → good e = true ∧ SQ A T X e (evSq T cal il)
def IHO (G : Glo) (N : List Str) (A : Nm) (T : Tab) (cal : Nat → List W → Hs → R W) (k : Nat) (il : Cnd) : Prop := ∀ (X : Cx) (sc : Scope), Cok G N A T cal k X sc → ∀ e : Option Expr, trO G N sc il e = true → SO A T X e (evO T cal il)
def IHC (G : Glo) (N : List Str) (A : Nm) (T : Tab) (cal : Nat → List W → Hs → R W) (k : Nat) (il : Cnd) : Prop := ∀ (X : Cx) (sc : Scope), Cok G N A T cal k X sc → ∀ es : List Expr, trC G N sc il es = true → SB A T X es (evC T cal il)
def IHSr (G : Glo) (N : List Str) (A : Nm) (T : Tab) (cal : Nat → List W → Hs → R W) (k : Nat) (il : Sr) : Prop := ∀ (X : Cx) (sc : Scope), Cok G N A T cal k X sc → ∀ tg e : Expr, trSr G N sc il e = true → good e = true ∧ SR A T X tg e (evSr T cal il)
def IHL (G : Glo) (N : List Str) (A : Nm) (T : Tab) (cal : Nat → List W → Hs → R W) (k : Nat) (il : Le) : Prop := ∀ (X : Cx) (sc : Scope), Cok G N A T cal k X sc → ∀ e : Expr, trL G N sc il e = true → good e = true ∧ SL A T X e (evL T cal il)

theorem arm_E_var (i : Nat)  : IHE G N A T cal k (.var i) := by
    intro X sc C e h
    simp only [trE] at h
    split at h <;> first | (cases h; done) | skip
    rename_i x p he
    obtain rfl := asName_eq he
    exact .plain rfl (s_var C h) rfl

theorem arm_E_non   : IHE G N A T cal k (.non) := by
    intro X sc C e h
    simp only [trE] at h
    split at h <;> first | (cases h; done) | skip
    rename_i j p he
    obtain rfl := asConst_eq he
    exact .plain rfl s_non rfl

theorem arm_E_bl (b : Bool)  : IHE G N A T cal k (.bl b) := by
    intro X sc C e h
    simp only [trE] at h
    split at h <;> first | (cases h; done) | skip
    rename_i d j p he
    obtain rfl := asConst_eq he
    have eb : b = d := by simpa using h
    subst eb
    exact .plain rfl s_bl rfl

theorem arm_E_int (b : Int)  : IHE G N A T cal k (.int b) := by
    intro X sc C e h
    simp only [trE] at h
    split at h <;> first | (cases h; done) | skip
    rename_i d j p he
    obtain rfl := asConst_eq he
    have eb : b = d := by simpa using h
    subst eb
    exact .plain rfl s_int rfl

theorem arm_E_str (b : Str)  : IHE G N A T cal k (.str b) := by
    intro X sc C e h
    simp only [trE] at h
    split at h <;> first | (cases h; done) | skip
    rename_i d j p he
    obtain rfl := asConst_eq he
    have eb : b = d := by simpa using h
    subst eb
    exact .plain rfl s_str rfl

theorem arm_E_glob (g : Nat)  : IHE G N A T cal k (.glob g) := by
    intro X sc C e h
    simp only [trE] at h
    split at h <;> first | (cases h; done) | skip
    rename_i x p he
    obtain rfl := asName_eq he
    simp only [Bool.and_eq_true, decide_eq_true_eq] at h
    exact .plain rfl (s_glob C h.1 h.2) rfl

theorem arm_E_op (o : Op2) (a : Ex) (b : Ex) (iE_a : IHE G N A T cal k a) (iE_b : IHE G N A T cal k b) : IHE G N A T cal k (.op o a b) := by
    intro X sc C e h
    simp only [trE] at h
    split at h <;> first | (cases h; done) | skip
    rename_i l p r q he
    obtain rfl := asBin_eq he
    simp only [Bool.and_eq_true, decide_eq_true_eq] at h
    exact .plain rfl (s_op h.1.1 (iE_a X sc C l h.1.2).2.1 (iE_b X sc C r h.2).2.1) rfl

theorem arm_E_neg (a : Ex) (iE_a : IHE G N A T cal k a) : IHE G N A T cal k (.neg a) := by
    intro X sc C e h
    simp only [trE] at h
    split at h <;> first | (cases h; done) | skip
    rename_i x q he
    obtain rfl := asUn_eq he
    exact .plain rfl (s_neg (iE_a X sc C x h).2.1) rfl

theorem arm_E_not (a : Ex) (iE_a : IHE G N A T cal k a) : IHE G N A T cal k (.not a) := by
    intro X sc C e h
    simp only [trE] at h
    split at h <;> first | (cases h; done) | skip
    rename_i x q he
    obtain rfl := asUn_eq he
    simp only [Bool.and_eq_true, decide_eq_true_eq] at h
    have q1 := iE_a X sc C x h.2
    have z := s_not (pos := q) C q1.2.1 (q1.2.2 h.1)
    exact ⟨rfl, z.1, fun _ => z.2⟩

theorem arm_E_cmp (c : Cm) (a : Ex) (b : Ex) (iE_a : IHE G N A T cal k a) (iE_b : IHE G N A T cal k b) : IHE G N A T cal k (.cmp c a b) := by
    intro X sc C e h
    simp only [trE] at h
    split at h <;> first | (cases h; done) | skip
    rename_i l p r q he
    obtain rfl := asCmp_eq he
    simp only [Bool.and_eq_true, decide_eq_true_eq] at h
    have qb := iE_b X sc C r h.2
    exact .cmp (s_cmp C h.1.1 (iE_a X sc C l h.1.2).2.1 qb.2.1) qb.1

theorem arm_E_chain (a : Ex) (c : Cm) (b : Ex) (d : Cm) (f : Ex) (iE_a : IHE G N A T cal k a) (iE_b : IHE G N A T cal k b) (iE_f : IHE G N A T cal k f) : IHE G N A T cal k (.chain a c b d f) := by
    intro X sc C e h
    simp only [trE] at h
    split at h <;> first | (cases h; done) | skip
    rename_i l p p2 r s q he
    obtain rfl := asCmp2_eq he
    simp only [Bool.and_eq_true, decide_eq_true_eq] at h
    obtain ⟨⟨⟨⟨h1, h2⟩, h3⟩, h4⟩, h5⟩ := h
    have qb := iE_b X sc C r h4
    have qf := iE_f X sc C s h5
    have z := s_chain (pos := q) C h1 h2 (iE_a X sc C l h3).2.1 qb.2.1 qf.2.1 qb.1 qf.1
    exact ⟨rfl, z.1, fun _ => z.2⟩

theorem arm_E_chain3 (a : Ex) (c : Cm) (b : Ex) (d : Cm) (f : Ex) (kk : Cm) (g : Ex) (iE_a : IHE G N A T cal k a) (iE_b : IHE G N A T cal k b) (iE_f : IHE G N A T cal k f) (iE_g : IHE G N A T cal k g) : IHE G N A T cal k (.chain3 a c b d f kk g) := by
    intro X sc C e h
    simp only [trE] at h
    split at h <;> first | (cases h; done) | skip
    rename_i l p p2 p3 r s t q he
    obtain rfl := asCmp3_eq he
    simp only [Bool.and_eq_true, decide_eq_true_eq] at h
    obtain ⟨⟨⟨⟨⟨⟨h1, h2⟩, h3⟩, h4⟩, h5⟩, h6⟩, h7⟩ := h
    have qb := iE_b X sc C r h5
    have qf := iE_f X sc C s h6
    have qg := iE_g X sc C t h7
    have z := s_chain3 (pos := q) C h1 h2 h3 (iE_a X sc C l h4).2.1 qb.2.1 qf.2.1 qg.2.1 qb.1 qf.1 qg.1
    exact ⟨rfl, z.1, fun _ => z.2⟩

theorem arm_E_isC (b : Bool) (kk : Option Bool) (a : Ex) (iE_a : IHE G N A T cal k a) : IHE G N A T cal k (.isC b kk a) := by
    intro X sc C e h
    simp only [trE] at h
    split at h <;> first | (cases h; done) | skip
    rename_i l p c j q2 q he
    obtain rfl := asCmp_eq he
    simp only [Bool.and_eq_true, decide_eq_true_eq] at h
    exact .cmp (s_isC h.1.1 h.1.2 (iE_a X sc C l h.2).2.1) rfl

theorem arm_E_and (a : Ex) (b : Ex) (iE_a : IHE G N A T cal k a) (iE_b : IHE G N A T cal k b) : IHE G N A T cal k (.and a b) := by
    intro X sc C e h
    simp only [trE] at h
    split at h <;> first | (cases h; done) | skip
    rename_i v w ws q he
    obtain rfl := asAnd_eq he
    simp only [Bool.and_eq_true] at h
    have qa := iE_a X sc C v h.1.2
    cases ws with
    | nil =>
      have h2 := h.2
      simp only [Bool.and_eq_true] at h2
      have qb := iE_b X sc C w h2.2
      have z := s_and2 (pos := q) C qa.2.1 (qa.2.2 h.1.1) qb.2.1 (qb.2.2 h2.1)
      exact ⟨rfl, z.1, fun _ => z.2⟩
    | cons u us =>
      have qb := iE_b X sc C (.BoolOp .And (w :: u :: us) q) h.2
      have z := s_andr (pos := q) C qa.2.1 (qa.2.2 h.1.1) qb.2.1 (qb.2.2 rfl)
      exact ⟨rfl, z.1, fun _ => z.2⟩

theorem arm_E_or (a : Ex) (b : Ex) (iE_a : IHE G N A T cal k a) (iE_b : IHE G N A T cal k b) : IHE G N A T cal k (.or a b) := by
    intro X sc C e h
    simp only [trE] at h
    split at h <;> first | (cases h; done) | skip
    rename_i v w ws q he
    obtain rfl := asOr_eq he
    simp only [Bool.and_eq_true] at h
    have qa := iE_a X sc C v h.1.2
    cases ws with
    | nil =>
      have h2 := h.2
      simp only [Bool.and_eq_true] at h2
      have qb := iE_b X sc C w h2.2
      have z := s_or2 (pos := q) C qa.2.1 (qa.2.2 h.1.1) qb.2.1 (qb.2.2 h2.1)
      exact ⟨rfl, z.1, fun _ => z.2⟩
    | cons u us =>
      have qb := iE_b X sc C (.BoolOp .Or (w :: u :: us) q) h.2
      have z := s_orr (pos := q) C qa.2.1 (qa.2.2 h.1.1) qb.2.1 (qb.2.2 rfl)
      exact ⟨rfl, z.1, fun _ => z.2⟩

theorem arm_E_ite (c : Ex) (a : Ex) (b : Ex) (iE_a : IHE G N A T cal k a) (iE_b : IHE G N A T cal k b) (iE_c : IHE G N A T cal k c) : IHE G N A T cal k (.ite c a b) := by
    intro X sc C e h
    simp only [trE] at h
    split at h <;> first | (cases h; done) | skip
    rename_i t x y q he
    obtain rfl := asIf_eq he
    simp only [Bool.and_eq_true, decide_eq_true_eq] at h
    obtain ⟨⟨⟨h1, h2⟩, h3⟩, h4⟩ := h
    exact ⟨rfl, s_ite C ((iE_c X sc C t h2).2.2 h1) (iE_a X sc C x h3).2.1 (iE_b X sc C y h4).2.1, fun z => nomatch z⟩

theorem arm_E_tup (es : Exs) (iEs_es : IHEs G N A T cal k es) : IHE G N A T cal k (.tup es) := by
    intro X sc C e h
    simp only [trE] at h
    split at h <;> first | (cases h; done) | skip
    rename_i xs n q he
    obtain rfl := asTup_eq he
    exact .plain rfl (s_tup (s_all (iEs_es X sc C xs h))) rfl

theorem arm_E_idx (a : Ex) (i : Ex) (iE_a : IHE G N A T cal k a) (iE_i : IHE G N A T cal k i) : IHE G N A T cal k (.idx a i) := by
    intro X sc C e h
    simp only [trE] at h
    split at h <;> first | (cases h; done) | skip
    rename_i v s q he
    obtain rfl := asSub_eq he
    simp only [Bool.and_eq_true, decide_eq_true_eq] at h
    have qi := iE_i X sc C s h.2
    exact .plain rfl (s_idx C qi.1 (iE_a X sc C v h.1).2.1 qi.2.1) rfl

theorem arm_E_slc (a : Ex) (lo : Cnd) (hi : Cnd) (iE_a : IHE G N A T cal k a) (iO_hi : IHO G N A T cal k hi) (iO_lo : IHO G N A T cal k lo) : IHE G N A T cal k (.slc a lo hi) := by
    intro X sc C e h
    simp only [trE] at h
    split at h <;> first | (cases h; done) | skip
    rename_i v l u p q he
    obtain rfl := asSlice_eq he
    simp only [Bool.and_eq_true, decide_eq_true_eq] at h
    exact .plain rfl (s_slc C (iE_a X sc C v h.1.1).2.1 (iO_lo X sc C l h.1.2) (iO_hi X sc C u h.2)) rfl

theorem arm_E_fld (a : Ex) (f : Nat) (iE_a : IHE G N A T cal k a) : IHE G N A T cal k (.fld a f) := by
    intro X sc C e h
    simp only [trE] at h
    split at h <;> first | (cases h; done) | skip
    rename_i v x q he
    obtain rfl := asAttr_eq he
    simp only [Bool.and_eq_true, decide_eq_true_eq] at h
    exact .plain rfl (s_fld C h.1.1 h.1.2 (iE_a X sc C v h.2).2.1) rfl

theorem arm_E_call (f : Nat) (es : Exs) (iEs_es : IHEs G N A T cal k es) : IHE G N A T cal k (.call f es) := by
    intro X sc C e h
    simp only [trE] at h
    split at h <;> first | (cases h; done) | skip
    rename_i x p xs kws q he
    obtain rfl := asCall_eq he
    simp only [Bool.and_eq_true, decide_eq_true_eq] at h
    obtain ⟨⟨⟨h0, h1⟩, h2⟩, h3⟩ := h
    obtain rfl := isEmpty_eq h0
    exact .plain rfl (s_call C h1 h2 (iEs_es X sc C xs h3)) rfl

theorem arm_E_callK (f : Nat) (p0 : List Nat) (es : Exs) (iEs_es : IHEs G N A T cal k es) : IHE G N A T cal k (.callK f p0 es) := by
    intro X sc C e h
    simp only [trE] at h
    split at h <;> first | (cases h; done) | skip
    rename_i x p xs kws q he
    obtain rfl := asCall_eq he
    simp only [Bool.and_eq_true, decide_eq_true_eq] at h
    have al := iEs_es X sc C _ h.2
    exact .plain rfl (s_callK C h.1.1.1 h.1.1.2 h.1.2 (good_app al.good) al) rfl

theorem arm_E_callD (f : Nat) (ds : List Int) (es : Exs) (iEs_es : IHEs G N A T cal k es) : IHE G N A T cal k (.callD f ds es) := by
    intro X sc C e h
    simp only [trE] at h
    split at h <;> first | (cases h; done) | skip
    rename_i x p xs kws q he
    obtain rfl := asCall_eq he
    simp only [Bool.and_eq_true, decide_eq_true_eq] at h
    obtain ⟨⟨⟨⟨h0, h1⟩, h2⟩, h4⟩, h3⟩ := h
    obtain rfl := isEmpty_eq h0
    exact .plain rfl (s_callD C h1 h2 h4 (iEs_es X sc C xs h3)) rfl

theorem arm_E_new (c : Nat) (es : Exs) (iEs_es : IHEs G N A T cal k es) : IHE G N A T cal k (.new c es) := by
    intro X sc C e h
    simp only [trE] at h
    split at h <;> first | (cases h; done) | skip
    rename_i x p xs kws q he
    obtain rfl := asCall_eq he
    simp only [Bool.and_eq_true, decide_eq_true_eq] at h
    obtain ⟨⟨⟨⟨h0, h1⟩, h2⟩, h3⟩, h4⟩ := h
    obtain rfl := isEmpty_eq h0
    exact .plain rfl (s_new C h1 h2 h3 (iEs_es X sc C xs h4)) rfl

theorem arm_E_newK (c : Nat) (p0 : List Nat) (es : Exs) (iEs_es : IHEs G N A T cal k es) : IHE G N A T cal k (.newK c p0 es) := by
    intro X sc C e h
    simp only [trE] at h
    split at h <;> first | (cases h; done) | skip
    rename_i x p xs kws q he
    obtain rfl := asCall_eq he
    simp only [Bool.and_eq_true, decide_eq_true_eq] at h
    have al := iEs_es X sc C _ h.2
    exact .plain rfl (s_newK C h.1.1.1 h.1.1.2 h.1.2 (good_app al.good) al) rfl

theorem arm_E_meth (a : Ex) (m : Nat) (es : Exs) (iE_a : IHE G N A T cal k a) (iEs_es : IHEs G N A T cal k es) : IHE G N A T cal k (.meth a m es) := by
    intro X sc C e h
    simp only [trE] at h
    split at h <;> first | (cases h; done) | skip
    rename_i o x ap xs kws q he
    obtain rfl := asMeth_eq he
    simp only [Bool.and_eq_true, decide_eq_true_eq] at h
    obtain ⟨⟨⟨⟨⟨⟨h0, h1⟩, h2⟩, h3⟩, h4⟩, h5⟩, h6⟩ := h
    obtain rfl := isEmpty_eq h0
    have al := iEs_es X sc C xs h6
    exact .plain rfl (s_meth C h1 h2 h3 h4 al.good (iE_a X sc C o h5).2.1 al) rfl

theorem arm_E_methK (a : Ex) (m : Nat) (p0 : List Nat) (es : Exs) (iE_a : IHE G N A T cal k a) (iEs_es : IHEs G N A T cal k es) : IHE G N A T cal k (.methK a m p0 es) := by
    intro X sc C e h
    simp only [trE] at h
    split at h <;> first | (cases h; done) | skip
    rename_i o x ap xs kws q he
    obtain rfl := asMeth_eq he
    simp only [Bool.and_eq_true, decide_eq_true_eq] at h
    obtain ⟨⟨⟨⟨⟨⟨h1, h2⟩, h3⟩, h4⟩, h7⟩, h5⟩, h6⟩ := h
    have al := iEs_es X sc C _ h6
    exact .plain rfl (s_methK C h1 h2 h3 h4 h7 (good_app al.good) (iE_a X sc C o h5).2.1 al) rfl

theorem arm_E_bm (b : Bm) (a : Ex) (es : Exs) (iE_a : IHE G N A T cal k a) (iEs_es : IHEs G N A T cal k es) : IHE G N A T cal k (.bm b a es) := by
    intro X sc C e h
    simp only [trE] at h
    split at h <;> first | (cases h; done) | skip
    rename_i o x ap xs kws q he
    obtain rfl := asMeth_eq he
    simp only [Bool.and_eq_true, decide_eq_true_eq] at h
    obtain ⟨⟨⟨⟨⟨⟨⟨h00, h0⟩, h1⟩, h2⟩, h3⟩, h4⟩, h5⟩, h6⟩ := h
    obtain rfl := isEmpty_eq h00
    have al := iEs_es X sc C xs h6
    exact .plain rfl (s_bm C h0 h1 h2 h3 h4 (iE_a X sc C o h5).2.1 al) rfl

theorem arm_E_bi (b : Bi) (es : Exs) (iEs_es : IHEs G N A T cal k es) : IHE G N A T cal k (.bi b es) := by
    intro X sc C e h
    simp only [trE] at h
    split at h <;> first | (cases h; done) | skip
    rename_i x p xs kws q he
    obtain rfl := asCall_eq he
    rw [Bool.and_eq_true] at h
    obtain rfl := isEmpty_eq h.1
    have h := h.2
    split at h
    · rename_i t
      split at h
      · rename_i y z
        simp only [Bool.and_eq_true] at h
        have al := iEs_es X sc C [y] h.2
        rcases es with _ | ⟨e0, _ | ⟨_, _⟩⟩
        · exact al.elim
        · exact .plain rfl (s_isi C h.1.1 h.1.2 al.1 al.2.1) rfl
        · exact al.2.2.elim
      · cases h
    · rename_i nb
      simp only [Bool.and_eq_true] at h
      exact .plain rfl (s_bi C nb h.1 (iEs_es X sc C xs h.2)) rfl

theorem arm_E_lb (b : Lb) (s : Sq) (iQ_s : IHQ G N A T cal k s) : IHE G N A T cal k (.lb b s) := by
    intro X sc C e h
    simp only [trE] at h
    split at h <;> first | (cases h; done) | skip
    rename_i x p y kws q he
    obtain rfl := asCall_eq he
    simp only [Bool.and_eq_true, decide_eq_true_eq] at h
    obtain rfl := isEmpty_eq h.1.1
    have qq := iQ_s X sc C y h.2
    exact .plain rfl (s_lb C h.1.2 qq.1 qq.2) rfl

theorem arm_E_lst (l : Le) (iL_l : IHL G N A T cal k l) : IHE G N A T cal k (.lst l) := by
    intro X sc C e h
    have h : trL G N sc l e = true := by simpa only [trE] using h
    have q := iL_l X sc C e h
    exact .plain q.1 (s_lst q.2) (trL_plain h)

theorem arm_E_eqS (b : Bool) (sa : Sq) (sb : Sq) (iQ_sa : IHQ G N A T cal k sa) (iQ_sb : IHQ G N A T cal k sb) : IHE G N A T cal k (.eqS b sa sb) := by
    intro X sc C e h
    simp only [trE] at h
    split at h <;> first | (cases h; done) | skip
    rename_i l p r q he
    obtain rfl := asCmp_eq he
    simp only [Bool.and_eq_true] at h
    have qb := iQ_sb X sc C r h.2
    exact .cmp (s_eqS C h.1.1 (iQ_sa X sc C l h.1.2).2 qb.2) qb.1

theorem arm_E_inSV (b : Bool) (a d : Ex) (iE_a : IHE G N A T cal k a) (iE_d : IHE G N A T cal k d) : IHE G N A T cal k (.inS b a (.val d)) := by
    intro X sc C e h
    simp only [trE, trQ] at h
    split at h <;> first | (cases h; done) | skip
    rename_i l p r q he
    obtain rfl := asCmp_eq he
    simp only [Bool.and_eq_true] at h
    have qa := iE_a X sc C l h.1.2
    have qb := iE_d X sc C r h.2
    exact .cmp (s_inV C h.1.1 qa.2.1 qb.2.1) qb.1
theorem arm_E_inSL (b : Bool) (a : Ex) (d : Le) (iE_a : IHE G N A T cal k a) (iL_d : IHL G N A T cal k d) : IHE G N A T cal k (.inS b a (.fresh d)) := by
    intro X sc C e h
    simp only [trE, trQ] at h
    split at h <;> first | (cases h; done) | skip
    rename_i l p r q he
    obtain rfl := asCmp_eq he
    simp only [Bool.and_eq_true] at h
    have qa := iE_a X sc C l h.1.2
    have qb := iL_d X sc C r h.2
    exact .cmp (s_inL C h.1.1 qa.2.1 qb.2) qb.1
theorem arm_E_dct0   : IHE G N A T cal k (.dct0) := by
    intro X sc C e h
    simp only [trE] at h
    obtain ⟨q, he⟩ := Option.isSome_iff_exists.mp h
    obtain rfl := asDict0_eq he
    exact .plain rfl s_dct0 rfl

theorem arm_E_dcomp (ke : Ex) (ve : Ex) (t : Tg) (s : Sr) (c : Cnd) (ws : List Nat) (iC_c : IHC G N A T cal k c) (iE_ke : IHE G N A T cal k ke) (iE_ve : IHE G N A T cal k ve) (iSr_s : IHSr G N A T cal k s) : IHE G N A T cal k (.dcomp ke ve t s c ws) := by
    intro X sc C e h
    simp only [trE] at h
    split at h <;> first | (cases h; done) | skip
    rename_i ek ev tg it ifs sc' q he
    obtain rfl := asDC_eq he
    simp only [Bool.and_eq_true] at h
    obtain ⟨⟨⟨⟨⟨h1, h2⟩, h3⟩, h4⟩, h5⟩, h6⟩ := h
    have qq := iSr_s X sc C tg it h1
    exact .plain rfl (s_dcomp C qq.1 h2 h3 qq.2 (fun X' b => iC_c X' sc' (cok_blk C b) ifs h4) (fun X' b => (iE_ke X' sc' (cok_blk C b) ek h5).2.1) (fun X' b => (iE_ve X' sc' (cok_blk C b) ev h6).2.1)) rfl

theorem arm_Es_nil   : IHEs G N A T cal k (.nil) := by
    intro X sc C es h
    simp only [trEs] at h
    obtain rfl := isEmpty_eq h
    trivial

theorem arm_Es_cons (e : Ex) (il : Exs) (iE_e : IHE G N A T cal k e) (iEs_il : IHEs G N A T cal k il) : IHEs G N A T cal k (.cons e il) := by
    intro X sc C es h
    simp only [trEs] at h
    split at h
    · rename_i x xs
      simp only [Bool.and_eq_true] at h
      have q := iE_e X sc C x h.1
      exact ⟨q.1, q.2.1, iEs_il X sc C xs h.2⟩
    · cases h

theorem arm_Q_val (d : Ex) (iE_d : IHE G N A T cal k d) : IHQ G N A T cal k (.val d) := by
    intro X sc C e h
    simp only [trQ] at h
    have q := iE_d X sc C e h
    exact ⟨q.1, s_qval q.2.1⟩

theorem arm_Q_fresh (l : Le) (iL_l : IHL G N A T cal k l) : IHQ G N A T cal k (.fresh l) := by
    intro X sc C e h
    simp only [trQ] at h
    have q := iL_l X sc C e h
    exact ⟨q.1, s_qfresh q.2⟩

theorem arm_O_none   : IHO G N A T cal k (.none) := by
    intro X sc C e h
    simp only [trO] at h
    obtain rfl := Option.isNone_iff_eq_none.mp h
    exact s_onone

theorem arm_O_some (d : Ex) (iE_d : IHE G N A T cal k d) : IHO G N A T cal k (.some d) := by
    intro X sc C e h
    simp only [trO] at h
    split at h
    · rename_i x
      exact s_osome (iE_d X sc C x h).2.1
    · cases h

theorem arm_C_none   : IHC G N A T cal k (.none) := by
    intro X sc C es h
    simp only [trC] at h
    obtain rfl := isEmpty_eq h
    exact s_cnone

theorem arm_C_some (d : Ex) (iE_d : IHE G N A T cal k d) : IHC G N A T cal k (.some d) := by
    intro X sc C es h
    simp only [trC] at h
    split at h
    · rename_i x
      simp only [Bool.and_eq_true] at h
      exact s_csome ((iE_d X sc C x h.2).2.2 h.1)
    · cases h

theorem arm_Sr_seq (s : Sq) (iQ_s : IHQ G N A T cal k s) : IHSr G N A T cal k (.seq s) := by
    intro X sc C tg e h
    simp only [trSr] at h
    have q := iQ_s X sc C e h
    exact ⟨q.1, s_rseq q.2⟩

theorem arm_Sr_rng (es : Exs) (iEs_es : IHEs G N A T cal k es) : IHSr G N A T cal k (.rng es) := by
    intro X sc C tg e h
    simp only [trSr] at h
    split at h <;> first | (cases h; done) | skip
    rename_i x p xs kws q he
    obtain rfl := asCall_eq he
    simp only [Bool.and_eq_true, decide_eq_true_eq] at h
    obtain ⟨⟨⟨h0, hl⟩, h1⟩, h2⟩ := h
    obtain rfl := isEmpty_eq h0
    have al := iEs_es X sc C xs h2
    refine ⟨rfl, ?_⟩
    rcases xs with _ | ⟨a, _ | ⟨b, _ | ⟨c, xs⟩⟩⟩
    · cases es with
      | nil =>
        intro Wx tk m H σ env hh Q hr he o
        rw [evSr, evEs] at o
        exact (show False from o).elim
      | cons _ _ => exact al.elim
    · rcases es with _ | ⟨e1, _ | ⟨e2, es⟩⟩
      · exact al.elim
      · exact s_rng1 C h1 al.1 al.2.1
      · exact al.2.2.elim
    · rcases es with _ | ⟨e1, _ | ⟨e2, _ | ⟨e3, es⟩⟩⟩
      · exact al.elim
      · exact al.2.2.elim
      · exact s_rng2 C h1 al.1 al.2.2.1 al.2.1 al.2.2.2.1
      · exact al.2.2.2.2.elim
    · simp at hl
      omega

theorem arm_Sr_enum (z0 : Sq)  : IHSr G N A T cal k (.enum z0) := by
    intro X sc C tg e h
    simp [trSr] at h

theorem arm_Sr_zip (z0 : Sq) (z1 : Sq)  : IHSr G N A T cal k (.zip z0 z1) := by
    intro X sc C tg e h
    simp [trSr] at h

theorem arm_Sr_items (z0 : Ex)  : IHSr G N A T cal k (.items z0) := by
    intro X sc C tg e h
    simp [trSr] at h

theorem arm_Sr_values (z0 : Ex)  : IHSr G N A T cal k (.values z0) := by
    intro X sc C tg e h
    simp [trSr] at h

theorem arm_L_disp (es : Exs) (iEs_es : IHEs G N A T cal k es) : IHL G N A T cal k (.disp es) := by
    intro X sc C e h
    simp only [trL] at h
    split at h <;> first | (cases h; done) | skip
    rename_i xs q he
    obtain rfl := asList_eq he
    exact ⟨rfl, s_disp (s_all (iEs_es X sc C xs h))⟩

theorem arm_L_comp (el : Ex) (t : Tg) (s : Sr) (c : Cnd) (ws : List Nat) (iC_c : IHC G N A T cal k c) (iE_el : IHE G N A T cal k el) (iSr_s : IHSr G N A T cal k s) : IHL G N A T cal k (.comp el t s c ws) := by
    intro X sc C e h
    simp only [trL] at h
    split at h <;> first | (cases h; done) | skip
    rename_i ee tg it ifs sc' q he
    obtain rfl := asLC_eq he
    simp only [Bool.and_eq_true] at h
    obtain ⟨⟨⟨⟨h1, h2⟩, h3⟩, h4⟩, h5⟩ := h
    have qq := iSr_s X sc C tg it h1
    exact ⟨rfl, s_comp C qq.1 h2 h3 qq.2 (fun X' b => iC_c X' sc' (cok_blk C b) ifs h4) (fun X' b => (iE_el X' sc' (cok_blk C b) ee h5).2.1)⟩

theorem arm_L_ofS (z0 : Sr)  : IHL G N A T cal k (.ofS z0) := by
    intro X sc C e h
    simp [trL] at h

theorem arm_L_sortedSet (s : Sq) (iQ_s : IHQ G N A T cal k s) : IHL G N A T cal k (.sortedSet s) := by
    intro X sc C e h
    simp only [trL] at h
    split at h <;> first | (cases h; done) | skip
    rename_i x p y kws q he
    obtain rfl := asCall_eq he
    simp only [Bool.and_eq_true] at h
    obtain ⟨⟨h0, h1⟩, h2⟩ := h
    obtain rfl := isEmpty_eq h0
    split at h2 <;> first | (cases h2; done) | skip
    rename_i z p2 y2 kws2 q2 he2
    obtain rfl := asCall_eq he2
    simp only [Bool.and_eq_true] at h2
    obtain ⟨⟨h3, h4⟩, h5⟩ := h2
    obtain rfl := isEmpty_eq h3
    have qq := iQ_s X sc C y2 h5
    exact ⟨rfl, s_sortedSet C h1 h4 qq.1 qq.2⟩

theorem arm_L_lrng (es : Exs) (iEs_es : IHEs G N A T cal k es) : IHL G N A T cal k (.lrng es) := by
    intro X sc C e h
    simp only [trL] at h
    split at h <;> first | (cases h; done) | skip
    rename_i x p y kws q he
    obtain rfl := asCall_eq he
    simp only [Bool.and_eq_true] at h
    obtain ⟨⟨h0, h1⟩, h2⟩ := h
    obtain rfl := isEmpty_eq h0
    split at h2 <;> first | (cases h2; done) | skip
    rename_i z p2 xs kws2 q2 he2
    obtain rfl := asCall_eq he2
    simp only [Bool.and_eq_true] at h2
    obtain ⟨⟨h3, h4⟩, h5⟩ := h2
    obtain rfl := isEmpty_eq h3
    exact ⟨rfl, s_lrng C h1 h4 (iEs_es X sc C xs h5)⟩

theorem arm_L_litems (d : Ex) (iE_d : IHE G N A T cal k d) : IHL G N A T cal k (.litems d) := by
    intro X sc C e h
    simp only [trL] at h
    split at h <;> first | (cases h; done) | skip
    rename_i x p y kws q he
    obtain rfl := asCall_eq he
    simp only [Bool.and_eq_true] at h
    obtain ⟨⟨h0, h1⟩, h2⟩ := h
    obtain rfl := isEmpty_eq h0
    split at h2 <;> first | (cases h2; done) | skip
    rename_i o2 z ap xs kws2 cp he2
    obtain rfl := asMeth_eq he2
    simp only [Bool.and_eq_true, decide_eq_true_eq] at h2
    obtain ⟨⟨⟨⟨⟨h3, h4⟩, h5⟩, h6⟩, h7⟩, h8⟩ := h2
    obtain rfl := isEmpty_eq h3
    obtain rfl := isEmpty_eq h4
    exact ⟨rfl, s_litems C h1 h5 h6 h7 (iE_d X sc C o2 h8).2.1⟩

theorem arm_L_sorted (s : Sq) (iQ_s : IHQ G N A T cal k s) : IHL G N A T cal k (.sorted s) := by
    intro X sc C e h
    simp only [trL] at h
    split at h <;> first | (cases h; done) | skip
    rename_i x p y kws q he
    obtain rfl := asCall_eq he
    simp only [Bool.and_eq_true] at h
    obtain ⟨⟨h0, h1⟩, h2⟩ := h
    obtain rfl := isEmpty_eq h0
    have qq := iQ_s X sc C y h2
    exact ⟨rfl, s_sorted C h1 qq.1 qq.2⟩

theorem arm_L_cat (a : Sq) (b : Sq) (iQ_a : IHQ G N A T cal k a) (iQ_b : IHQ G N A T cal k b) : IHL G N A T cal k (.cat a b) := by
    intro X sc C e h
    simp only [trL] at h
    split at h <;> first | (cases h; done) | skip
    rename_i l r q he
    obtain rfl := asBin_eq he
    simp only [Bool.and_eq_true] at h
    exact ⟨rfl, s_cat (iQ_a X sc C l h.1).2 (iQ_b X sc C r h.2).2⟩

theorem arm_L_rep (a : Sq) (n : Ex) (iE_n : IHE G N A T cal k n) (iQ_a : IHQ G N A T cal k a) : IHL G N A T cal k (.rep a n) := by
    intro X sc C e h
    simp only [trL] at h
    split at h <;> first | (cases h; done) | skip
    rename_i l r q he
    obtain rfl := asBin_eq he
    simp only [Bool.and_eq_true] at h
    exact ⟨rfl, s_rep (iQ_a X sc C l h.1).2 (iE_n X sc C r h.2).2.1⟩

end
end MP
end

section
set_option Elab.async false
set_option linter.all false
/-! MiniPy: each expression that is tied runs as its image. -/
namespace MP
open PySem PySem.Spec PyProof.Rows L2
section
variable {G : Glo} {N : List Str} {A : Nm} {T : Tab} {cal : Nat → List W → Hs → R W} {k : Nat}
mutual
theorem okE : ∀ il : Ex, IHE G N A T cal k il
  | .var i => arm_E_var i 
  | .non => arm_E_non  
  | .bl b => arm_E_bl b 
  | .int b => arm_E_int b 
  | .str b => arm_E_str b 
  | .glob g => arm_E_glob g 
  | .op o a b => arm_E_op o a b (okE a) (okE b)
  | .neg a => arm_E_neg a (okE a)
  | .not a => arm_E_not a (okE a)
  | .cmp c a b => arm_E_cmp c a b (okE a) (okE b)
  | .chain a c b d f => arm_E_chain a c b d f (okE a) (okE b) (okE f)
  | .chain3 a1 a2 a3 a4 a5 a6 a7 => arm_E_chain3 a1 a2 a3 a4 a5 a6 a7 (okE a1) (okE a3) (okE a5) (okE a7)
  | .isC b kk a => arm_E_isC b kk a (okE a)
  | .and a b => arm_E_and a b (okE a) (okE b)
  | .or a b => arm_E_or a b (okE a) (okE b)
  | .ite c a b => arm_E_ite c a b (okE a) (okE b) (okE c)
  | .tup es => arm_E_tup es (okEs es)
  | .idx a i => arm_E_idx a i (okE a) (okE i)
  | .slc a lo hi => arm_E_slc a lo hi (okE a) (okO hi) (okO lo)
  | .fld a f => arm_E_fld a f (okE a)
  | .call f es => arm_E_call f es (okEs es)
  | .callK f p0 es => arm_E_callK f p0 es (okEs es)
  | .callD f ds es => arm_E_callD f ds es (okEs es)
  | .new c es => arm_E_new c es (okEs es)
  | .newK c p0 es => arm_E_newK c p0 es (okEs es)
  | .meth a m es => arm_E_meth a m es (okE a) (okEs es)
  | .methK a m p0 es => arm_E_methK a m p0 es (okE a) (okEs es)
  | .bm b a es => arm_E_bm b a es (okE a) (okEs es)
  | .bi b es => arm_E_bi b es (okEs es)
  | .lb b s => arm_E_lb b s (okQ s)
  | .lst l => arm_E_lst l (okL l)
  | .eqS b sa sb => arm_E_eqS b sa sb (okQ sa) (okQ sb)
  | .inS b a (.val d) => arm_E_inSV b a d (okE a) (okE d)
  | .inS b a (.fresh d) => arm_E_inSL b a d (okE a) (okL d)
  | .dct0 => arm_E_dct0  
  | .dcomp ke ve t s c ws => arm_E_dcomp ke ve t s c ws (okC c) (okE ke) (okE ve) (okSr s)
theorem okEs : ∀ il : Exs, IHEs G N A T cal k il
  | .nil => arm_Es_nil  
  | .cons e il => arm_Es_cons e il (okE e) (okEs il)
theorem okQ : ∀ il : Sq, IHQ G N A T cal k il
  | .val d => arm_Q_val d (okE d)
  | .fresh l => arm_Q_fresh l (okL l)
theorem okO : ∀ il : Cnd, IHO G N A T cal k il
  | .none => arm_O_none  
  | .some d => arm_O_some d (okE d)
theorem okC : ∀ il : Cnd, IHC G N A T cal k il
  | .none => arm_C_none  
  | .some d => arm_C_some d (okE d)
theorem okSr : ∀ il : Sr, IHSr G N A T cal k il
  | .seq s => arm_Sr_seq s (okQ s)
  | .rng es => arm_Sr_rng es (okEs es)
  | .enum z0 => arm_Sr_enum z0 
  | .zip z0 z1 => arm_Sr_zip z0 z1 
  | .items z0 => arm_Sr_items z0 
  | .values z0 => arm_Sr_values z0 
theorem okL : ∀ il : Le, IHL G N A T cal k il
  | .disp es => arm_L_disp es (okEs es)
  | .comp el t s c ws => arm_L_comp el t s c ws (okC c) (okE el) (okSr s)
  | .ofS z0 => arm_L_ofS z0 
  | .sortedSet s => arm_L_sortedSet s (okQ s)
  | .lrng es => arm_L_lrng es (okEs es)
  | .litems d => arm_L_litems d (okE d)
  | .sorted s => arm_L_sorted s (okQ s)
  | .cat a b => arm_L_cat a b (okQ a) (okQ b)
  | .rep a n => arm_L_rep a n (okE n) (okQ a)
end
end
end MP
end

section
set_option Elab.async false
set_option linter.all false
set_option maxRecDepth 100000
set_option maxHeartbeats 8000000
/-! MiniPy: statements: what they reach; the plain ones. -/
namespace MP
open PySem PySem.Spec PyProof.Rows L2

/-- where a statement ends -/
inductive Bx where
  | nx (σ : L2.St) | rt (v : V) | bk (σ : L2.St) | ct (σ : L2.St)
def RelFl (A : Nm) (K : PySem.W.Frag) (m : Mp) (H : Hp) : Fl → Bx → Prop
  | .next e, .nx σ => EnvR K A m H e σ
  | .ret w, .rt v => RelW K A m H w v
  | .brk e, .bk σ => EnvR K A m H e σ
  | .cont e, .ct σ => EnvR K A m H e σ
  | _, _ => False
def endQ (D : Ends) : Bx → Hp → Prop
  | .nx σ, H => D.nx σ H
  | .rt v, H => D.rt v H
  | .bk σ, H => D.bk σ H
  | .ct σ, H => D.ct σ H
section
variable {G : Glo} {N : List Str} {A : Nm} {T : Tab} {cal : Nat → List W → Hs → R W} {k : Nat} {X : Cx} {sc sc' : Scope} {wf : Nat}
def SS (A : Nm) (T : Tab) (X : Cx) (st : Stmt) (ev : Env → Hs → R Fl) : Prop := ∀ (E : XK), Takes X (fun c d _ H => E c d H) → ∀ m H σ env h D, HRel X.K A m h H → EnvR X.K A m H env σ →
  Out X.K A T (RelFl A X.K) m H (ev env h) (endQ D) E → tS X st D σ H
def SSs (A : Nm) (T : Tab) (X : Cx) (sts : List Stmt) (ev : Env → Hs → R Fl) : Prop := ∀ (E : XK), Takes X (fun c d _ H => E c d H) → ∀ m H σ env h D, HRel X.K A m h H → EnvR X.K A m H env σ →
  Out X.K A T (RelFl A X.K) m H (ev env h) (endQ D) E → tSs X sts D σ H
theorem fl_next {m m1 : Mp} {h : Hs} {H H1 : Hp} {e : Env} {σ : L2.St} {D : Ends} {E : XK} {K : PySem.W.Frag} (o : Out K A T (RelFl A K) m H (.ok (.next e) h) (endQ D) E) (s : Stp m H m1 H1) (hr : HRel K A m1 h H1) (he : EnvR K A m1 H1 e σ) : D.nx σ H1 := o m1 H1 (.nx σ) s hr he
theorem fl_ret {m m1 : Mp} {h : Hs} {H H1 : Hp} {w : W} {v : V} {D : Ends} {E : XK} {K : PySem.W.Frag} (o : Out K A T (RelFl A K) m H (.ok (.ret w) h) (endQ D) E) (s : Stp m H m1 H1) (hr : HRel K A m1 h H1) (r : RelW K A m1 H1 w v) : D.rt v H1 := o m1 H1 (.rt v) s hr r
theorem no_swap {e : Expr} (h : notComp e = true) (t : Option Expr) (l : Nat) (env : PySem.Env) : swapsWith e t l env = pure false := by
  cases e <;> first | rfl | cases h
theorem s_pass {pos : Pos} : SS A T X (.Pass pos) (evS T cal wf .pass) := fun E tk m H σ env h D hr he o => tS_of ps_pass (fl_next (by rw [evS] at o; exact o) .rfl' hr he)
theorem s_brk {pos : Pos} : SS A T X (.Break pos) (evS T cal wf .brk) := fun E tk m H σ env h D hr he o => tS_of ps_break (by rw [evS] at o; exact o m H (.bk σ) .rfl' hr he)
theorem s_cont {pos : Pos} : SS A T X (.Continue pos) (evS T cal wf .cont) := fun E tk m H σ env h D hr he o => tS_of ps_continue (by rw [evS] at o; exact o m H (.ct σ) .rfl' hr he)
theorem s_retN {pos : Pos} : SS A T X (.Return none pos) (evS T cal wf .retN) := fun E tk m H σ env h D hr he o => tS_of ps_retN (by rw [evS] at o; exact fl_ret o .rfl' hr rfl)
theorem s_ret {e : Ex} {x : Expr} {pos : Pos} (se : SE A T X x (evE T cal e)) : SS A T X (.Return (some x) pos) (evS T cal wf (.ret e)) := by
  intro E tk m H σ env h D hr he o
  refine tS_of (ps_ret pe_w) ?_
  rw [evS] at o
  exact se _ tk m H σ env h _ hr he (Out.bind o fun w h1 m1 H1 v e1 s1 hr1 r1 o1 => fl_ret o1 .rfl' hr1 r1)
theorem s_expr {e : Ex} {x : Expr} {pos : Pos} (nc : notComp x = true) (se : SE A T X x (evE T cal e)) : SS A T X (.Expr x pos) (evS T cal wf (.expr e)) := by
  intro E tk m H σ env h D hr he o
  refine tS_of (ps_expr pe_w (no_swap nc _ _ _)) ?_
  rw [evS] at o
  exact se _ tk m H σ env h _ hr he (Out.bind o fun w h1 m1 H1 v e1 s1 hr1 r1 o1 => fl_next o1 .rfl' hr1 (he.mono s1))
theorem s_if {c : Ex} {a b : Sts} {t : Expr} {x y : List Stmt} {pos : Pos} (st : ST A T X t (evE T cal c)) (ha : SSs A T X x (evSs T cal wf a)) (hb : SSs A T X y (evSs T cal wf b)) : SS A T X (.If t x y pos) (evS T cal wf (.ite c a b)) := by
  intro E tk m H σ env h D hr he o
  refine tS_of (ps_if pt_w pss_w pss_w) ?_
  rw [evS] at o
  have o' : Out X.K A T (RelFl A X.K) m H ((truthR (evE T cal c env h)).bind fun b0 h1 => match b0 with | true => evSs T cal wf a env h1 | false => evSs T cal wf b env h1) (endQ D) E := by
    cases e : evE T cal c env h with
    | ok w1 h1 =>
      rw [e] at o
      cases w1 with
      | bl c => cases c <;> exact o
      | _ => exact (show False from o).elim
    | raise c vs h1 => rw [e] at o; exact o
    | stuck => rw [e] at o; exact o
  refine st _ tk m H σ env h _ hr he (Out.bind o' fun c h1 m1 H1 x e1 s1 hr1 r1 o1 => ?_)
  cases r1
  cases c with
  | true => rw [if_pos rfl]; exact ha E tk m1 H1 σ env h1 D hr1 (he.mono s1) o1
  | false => rw [if_neg Bool.false_ne_true]; exact hb E tk m1 H1 σ env h1 D hr1 (he.mono s1) o1
theorem s_nil : SSs A T X [] (evSs T cal wf .nil) := fun E tk m H σ env h D hr he o => tSs_of pss_nil (fl_next (by rw [evSs] at o; exact o) .rfl' hr he)
theorem s_cons {s : St} {r : Sts} {x : Stmt} {xs : List Stmt} (ha : SS A T X x (evS T cal wf s)) (hb : SSs A T X xs (evSs T cal wf r)) : SSs A T X (x :: xs) (evSs T cal wf (.cons s r)) := by
  intro E tk m H σ env h D hr he o
  refine tSs_of (pss_cons ps_w pss_w) ?_
  rw [evSs] at o
  refine ha E tk m H σ env h _ hr he ?_
  cases e : evS T cal wf s env h with
  | stuck => rw [e] at o; exact o
  | raise c vs h1 => rw [e] at o; exact o
  | ok fl h1 =>
    rw [e, bind_ok] at o
    intro m1 H1 b s1 hr1 rb
    cases fl with
    | next e1 =>
      cases b with
      | nx σ1 => exact hb E tk m1 H1 σ1 e1 h1 D hr1 rb (Out.step o s1)
      | _ => exact (show False from rb).elim
    | ret w =>
      cases b with
      | rt v => exact o m1 H1 (.rt v) s1 hr1 rb
      | _ => exact (show False from rb).elim
    | brk e1 =>
      cases b with
      | bk σ1 => exact o m1 H1 (.bk σ1) s1 hr1 rb
      | _ => exact (show False from rb).elim
    | cont e1 =>
      cases b with
      | ct σ1 => exact o m1 H1 (.ct σ1) s1 hr1 rb
      | _ => exact (show False from rb).elim
end
end MP
end

section
set_option Elab.async false
set_option linter.all false
set_option maxRecDepth 100000
set_option maxHeartbeats 8000000
/-! MiniPy: assignments, while. -/
namespace MP
open PySem PySem.Spec PyProof.Rows L2

section
variable {G : Glo} {N : List Str} {A : Nm} {T : Tab} {cal : Nat → List W → Hs → R W} {k : Nat} {X : Cx} {sc sc' : Scope} {wf : Nat}
/-- no stores in another order -/
def noPar : Expr → Expr → Bool
  | .Tuple .., .Tuple .. => false
  | .List .., .Tuple .. => false
  | _, _ => true
theorem no_par {tg e : Expr} (h : noPar tg e = true) (env : PySem.Env) : swappedStores [tg] e env = pure none := by
  unfold swappedStores
  cases tg with
  | Tuple _ _ _ => cases e <;> first | rfl | cases h
  | List _ _ => cases e <;> first | rfl | cases h
  | _ => cases e <;> rfl
theorem s_asg (C : Cok G N A T cal k X sc) {t : Tg} {e : Ex} {tg x : Expr} {pos : Pos} (nc : notComp x = true) (np : noPar tg x = true) (ht : trT N sc t tg = true) (se : SE A T X x (evE T cal e)) : SS A T X (.Assign [tg] x pos) (evS T cal wf (.asg t e)) := by
  intro E tk m H σ env h D hr he o
  refine tS_of (ps_asg pe_w pg_w (no_swap nc _ _ _) (no_par np _) (by rw [not_star ht]; rfl)) ?_
  rw [evS] at o
  refine se _ tk m H σ env h _ hr he (Out.bind o fun w h1 m1 H1 v e1 s1 hr1 r1 o1 => ?_)
  cases ea : asgTg h1 t w env with
  | none => rw [ea] at o1; exact (show False from o1).elim
  | some e2 =>
    rw [ea] at o1
    exact s_tg C t tg ht m1 H1 σ env h1 w v e2 _ hr1 (he.mono s1) r1 ea fun σ' he' _ => fl_next o1 .rfl' hr1 he'
theorem s_fldSet (C : Cok G N A T cal k X sc) {a e : Ex} {f : Nat} {o x : Expr} {y : Str} {p pos : Pos} (hf : G.fi.lookup y = some f) (sa : SE A T X o (evE T cal a)) (se : SE A T X x (evE T cal e)) : SS A T X (.Assign [.Attribute o y p] x pos) (evS T cal wf (.fldSet a f e)) := by
  intro E tk m H σ env h D hr he out
  have hs : swapsWith x (some (.Attribute o y p)) pos.line X.env = pure false := by cases x <;> rfl
  refine tS_of (ps_fld pe_w pe_w hs) ?_
  rw [evS] at out
  refine se _ tk m H σ env h _ hr he (Out.bind out fun w h1 m1 H1 v e1 s1 hr1 r1 o1 => ?_)
  refine sa _ tk m1 H1 σ env h1 _ hr1 (he.mono s1) (Out.bind o1 fun w2 h2 m2 H2 v2 e2 s2 hr2 r2 o2 => ?_)
  cases w2 with
  | ref n =>
    obtain ⟨q, eq, rfl⟩ := rel_ref r2
    dsimp only at o2
    split at o2
    · rename_i c fs ec
      obtain ⟨⟨c1, c2⟩, o2⟩ := out_if o2
      obtain ⟨dx, gs, hq, rf⟩ := hr2.cell _ _ _ ec eq
      have K1 := C.fx.cls c c2
      have ey : A.fn f = y := C.fx.fi y f hf
      subst ey
      have nf : ∀ o u, H2 q ≠ some (.frz o u) := fun _ _ z => by rw [hq] at z; cases z
      have st := Stp.wrote (o := .ins (A.ca c) dx (putF (A.fn f) v gs)) eq (fun _ => (hr2.cell _ _ _ ec eq).notTup) nf
      refine ⟨q, A.ca c, dx, gs, rfl, hq, K1.cl, K1.na _ f (by assumption), by rw [relFs_len rf]; omega, ?_⟩
      refine fl_next o2 st (hr2.wrote eq ec nf fun s => ⟨dx, _, upd_same, ?_⟩) (((he.mono s1).mono s2).mono st)
      exact relFs_put C.fx.finj ((r1.mono s2).mono s) (rf.mono s)
    · exact (show False from o2).elim
  | _ => exact (show False from o2).elim
theorem s_while (hp : PassesOwn (model X.prog X.w) X.A X.env X.xe) {c : Ex} {b : Sts} {t : Expr} {x : List Stmt} {pos : Pos} (st : ST A T X t (evE T cal c)) (hb : SSs A T X x (evSs T cal wf b)) : SS A T X (.While t x [] pos) (evS T cal wf (.while c b)) := by
  intro E tk m H σ env h D hr he o
  refine tS_of (ps_while hp pt_w pss_w) ?_
  rw [evS] at o
  refine ⟨fun n σ' H' => ∃ m' h' env', Stp m H m' H' ∧ HRel X.K A m' h' H' ∧ EnvR X.K A m' H' env' σ' ∧ Out X.K A T (RelFl A X.K) m' H' (whileGo (fun e1 h1 => evE T cal c e1 h1) (fun e1 h1 => evSs T cal wf b e1 h1) n env' h') (endQ D) E, ⟨wf, m, h, env, .rfl', hr, he, o⟩, ?_⟩
  rintro n σ1 H1 ⟨m1, h1, env1, s1, hr1, he1, o1⟩
  cases n with
  | zero => exact (show False from o1).elim
  | succ n =>
    rw [whileGo] at o1
    have o' : Out X.K A T (RelFl A X.K) m1 H1 ((truthR (evE T cal c env1 h1)).bind fun b0 h2 => match b0 with
      | false => .ok (.next env1) h2
      | true => (evSs T cal wf b env1 h2).bind fun fl h2 => match fl with
        | .next e2 => whileGo (fun e1 h1 => evE T cal c e1 h1) (fun e1 h1 => evSs T cal wf b e1 h1) n e2 h2
        | .cont e2 => whileGo (fun e1 h1 => evE T cal c e1 h1) (fun e1 h1 => evSs T cal wf b e1 h1) n e2 h2
        | .brk e2 => .ok (.next e2) h2
        | .ret w => .ok (.ret w) h2) (endQ D) E := by
      cases e : evE T cal c env1 h1 with
      | ok w1 h2 =>
        rw [e] at o1
        cases w1 with
        | bl c => cases c <;> exact o1
        | _ => exact (show False from o1).elim
      | raise c vs h1 => rw [e] at o1; exact o1
      | stuck => rw [e] at o1; exact o1
    refine st _ tk m1 H1 σ1 env1 h1 _ hr1 he1 (Out.bind o' fun b0 h2 m2 H2 x2 e2 s2 hr2 r2 o2 => ?_)
    cases r2
    cases b0 with
    | false => rw [if_neg Bool.false_ne_true]; exact fl_next o2 .rfl' hr2 (he1.mono s2)
    | true =>
      rw [if_pos rfl]
      refine ⟨fun σ' H' => ∃ m' h' env', Stp m H m' H' ∧ HRel X.K A m' h' H' ∧ EnvR X.K A m' H' env' σ' ∧ Out X.K A T (RelFl A X.K) m' H' (whileGo (fun e1 h1 => evE T cal c e1 h1) (fun e1 h1 => evSs T cal wf b e1 h1) n env' h') (endQ D) E, fun σ' H' p => ⟨n, Nat.lt_succ_self n, p⟩, ?_⟩
      refine hb E tk m2 H2 σ1 env1 h2 _ hr2 (he1.mono s2) ?_
      cases e3 : evSs T cal wf b env1 h2 with
      | stuck => rw [e3] at o2; exact o2
      | raise cc vs h3 => rw [e3] at o2; exact o2
      | ok fl h3 =>
        rw [e3] at o2
        intro m3 H3 bx s3 hr3 rb
        cases fl with
        | next e4 =>
          cases bx with
          | nx σ4 => exact ⟨m3, h3, e4, (s1.trans s2).trans s3, hr3, rb, Out.step o2 s3⟩
          | _ => exact (show False from rb).elim
        | cont e4 =>
          cases bx with
          | ct σ4 => exact ⟨m3, h3, e4, (s1.trans s2).trans s3, hr3, rb, Out.step o2 s3⟩
          | _ => exact (show False from rb).elim
        | brk e4 =>
          cases bx with
          | bk σ4 => exact fl_next o2 s3 hr3 rb
          | _ => exact (show False from rb).elim
        | ret w =>
          cases bx with
          | rt v => exact (show D.rt v H3 from fl_ret (D := D) (E := E) o2 s3 hr3 rb)
          | _ => exact (show False from rb).elim
end
end MP
end

section
set_option Elab.async false
set_option linter.all false
set_option maxRecDepth 100000
set_option maxHeartbeats 8000000
/-! MiniPy: for. -/
namespace MP
open PySem PySem.Spec PyProof.Rows L2

section
variable {G : Glo} {N : List Str} {A : Nm} {T : Tab} {cal : Nat → List W → Hs → R W} {k : Nat} {X : Cx} {sc sc' : Scope} {wf : Nat}
def forR (T : Tab) (cal : Nat → List W → Hs → R W) (wf : Nat) (t : Tg) (s : Sr) (b : Sts) (env : Env) (h : Hs) : R Fl := (evSr T cal s env h).bind fun sv h1 => forGo sv.g t (fun e1 h2 => evSs T cal wf b e1 h2) sv.items env h1
theorem for_g {g : Option (Nat × Cell)} {t : Tg} {f : Env → Hs → R Fl} {xs : List W} {env : Env} {h : Hs} {m : Mp} {H : Hp} {K : PySem.W.Frag} {Rl : Mp → Hp → Fl → Bx → Prop} {Q : Bx → Hp → Prop} {E : XK} (o : Out K A T Rl m H (forGo g t f xs env h) Q E) : gOk g h = true := by
  cases xs with
  | nil =>
    rw [forGo] at o
    by_cases hg : gOk g h = true
    · exact hg
    · rw [if_neg hg] at o; exact (show False from o).elim
  | cons w r =>
    rw [forGo] at o
    by_cases hg : gOk g h = true
    · exact hg
    · rw [if_neg hg] at o; exact (show False from o).elim
theorem for_core (C : Cok G N A T cal k X sc) (hp : PassesOwn (model X.prog X.w) X.A X.env X.xe) {t : Tg} {s : Sr} {b : Sts} {tg it : Expr} {x : List Stmt} {pos : Pos} (gi : good it = true) (ht : trT N sc t tg = true) (hs : SR A T X tg it (evSr T cal s)) (hb : SSs A T X x (evSs T cal wf b)) :
    SS A T X (.For tg it x [] pos) (forR T cal wf t s b) := by
  intro E tk m H σ env h D hr he o
  refine tS_of (ps_for hp C.calm pi_w pg_w pss_w (not_set_fold gi _)) ?_
  refine hs _ tk m H σ env h _ hr he (Out.bind o fun sv h1 m1 H1 J e1 s1 hr1 r1 o1 => ?_)
  obtain ⟨Gd, Y, wk, key⟩ := r1
  let Pv : Nat → L2.St → Hp → Prop := fun i σ' H' => ∃ m' h' env', Stp m1 H1 m' H' ∧ HRel X.K A m' h' H' ∧ EnvR X.K A m' H' env' σ' ∧ Out X.K A T (RelFl A X.K) m' H' (forGo sv.g t (fun e1 h2 => evSs T cal wf b e1 h2) (sv.items.drop i) env' h') (endQ D) E
  refine for_it wk Pv ⟨m1, h1, env, .rfl', hr1, he.mono s1, by rw [List.drop_zero]; exact o1⟩ (fun i σ' H' hi p => ?_) (fun i x0 σ' H' H'' hi p y => ?_) (fun σ' H' p => ?_)
  · obtain ⟨m', h', env', st, hr', he', oo⟩ := p
    exact (key m' h' H' st hr' (for_g oo)).1
  · obtain ⟨m', h', env', st, hr', he', oo⟩ := p
    have hg := for_g oo
    obtain ⟨w, ew, s3, hr3, rw'⟩ := (key m' h' H' st hr' hg).2 i x0 H'' hi y
    have er : sv.items.drop i = sv.items[i] :: sv.items.drop (i + 1) := List.drop_eq_getElem_cons hi
    rw [List.getElem?_eq_getElem hi] at ew
    have ew := Option.some.inj ew
    rw [er, forGo, if_pos hg, ew] at oo
    cases ea : asgTg h' t w env' with
    | none => rw [ea] at oo; exact (show False from oo).elim
    | some e2 =>
      rw [ea] at oo
      refine s_tg C t tg ht m' H'' σ' env' h' w x0 e2 _ hr3 (he'.mono s3) rw' ea fun σ2 he2 _ => ?_
      refine hb E tk m' H'' σ2 e2 h' _ hr3 he2 ?_
      have oo := Out.step oo s3
      have st3 := st.trans s3
      cases e3 : evSs T cal wf b e2 h' with
      | stuck => simp only [e3] at oo; exact (show False from oo).elim
      | raise cc vs h3 => simp only [e3] at oo; exact oo
      | ok fl h3 =>
        simp only [e3, bind_ok] at oo
        intro m3 H3 bx s4 hr4 rb
        cases fl with
        | next e4 =>
          cases bx with
          | nx σ4 => exact ⟨m3, h3, e4, st3.trans s4, hr4, rb, Out.step oo s4⟩
          | _ => exact (show False from rb).elim
        | cont e4 =>
          cases bx with
          | ct σ4 => exact ⟨m3, h3, e4, st3.trans s4, hr4, rb, Out.step oo s4⟩
          | _ => exact (show False from rb).elim
        | brk e4 =>
          cases bx with
          | bk σ4 => exact (show D.nx σ4 H3 from fl_next (D := D) (E := E) oo s4 hr4 rb)
          | _ => exact (show False from rb).elim
        | ret w =>
          cases bx with
          | rt v => exact (show D.rt v H3 from fl_ret (D := D) (E := E) oo s4 hr4 rb)
          | _ => exact (show False from rb).elim
  · obtain ⟨m', h', env', st, hr', he', oo⟩ := p
    have hg := for_g oo
    rw [List.drop_length, forGo, if_pos hg] at oo
    exact fl_next oo .rfl' hr' he'
theorem s_for (C : Cok G N A T cal k X sc) (hp : PassesOwn (model X.prog X.w) X.A X.env X.xe) {t : Tg} {s : Sr} {b : Sts} {tg it : Expr} {x : List Stmt} {pos : Pos} (gi : good it = true) (ht : trT N sc t tg = true) (hs : SR A T X tg it (evSr T cal s)) (hb : SSs A T X x (evSs T cal wf b)) :
    SS A T X (.For tg it x [] pos) (evS T cal wf (.for t s b)) := by
  intro E tk m H σ env h D hr he o
  have o : Out X.K A T (RelFl A X.K) m H (locked (lockOf env h s) (forR T cal wf t s b env) h) (endQ D) E := by
    rw [evS] at o
    exact o
  have core := for_core (wf := wf) (pos := pos) C hp gi ht hs hb
  cases el : lockOf env h s with
  | none => rw [el] at o; exact core E tk m H σ env h D hr he o
  | some p =>
    obtain ⟨r, kvs⟩ := p
    rw [el] at o
    have ec := lockOf_inv el
    obtain ⟨d, e1, _⟩ := hr.addr ec
    obtain ⟨ks, q, rk, lk⟩ := lock_parts hr e1 ec
    obtain ⟨fl, h2, ef, c, o⟩ := locked_out o
    refine tS_of (ps_lock ps_w) ⟨d, .dK ks, q, trivial, fun od => ?_⟩
    obtain ⟨hr1, s1⟩ := lk od
    refine core E tk m _ σ env (h.set r (.fdc kvs)) _ hr1 (he.mono s1) ?_
    rw [ef]
    intro m' H' bx s' hr' rb
    obtain ⟨u1, u2, u3⟩ := unlock_parts hr e1 q rk s' hr' c
    have nt : ∀ vs, ¬ Rd H' d (.tup vs) := fun vs z => by rcases z with z | ⟨u, z⟩ <;> rw [u1] at z <;> cases z
    have up : ∀ {e : Env} {σ' : L2.St}, EnvR X.K A m' H' e σ' → EnvR X.K A m' (upd H' d (.dK ks)) e σ' := fun he => ⟨he.1, fun i w e => let ⟨v, a, b⟩ := he.2 i w e; ⟨v, a, relW_up (side_tp u1 nt) _ _ b⟩⟩
    cases fl with
    | next e4 =>
      cases bx with
      | nx σ4 => exact ⟨u1, fl_next o u2 u3 (up rb)⟩
      | _ => exact (show False from rb).elim
    | cont e4 =>
      cases bx with
      | ct σ4 => exact ⟨u1, o m' _ (.ct σ4) u2 u3 (up rb)⟩
      | _ => exact (show False from rb).elim
    | brk e4 =>
      cases bx with
      | bk σ4 => exact ⟨u1, o m' _ (.bk σ4) u2 u3 (up rb)⟩
      | _ => exact (show False from rb).elim
    | ret w =>
      cases bx with
      | rt v => exact ⟨u1, fl_ret o u2 u3 (relW_up (side_tp u1 nt) _ _ rb)⟩
      | _ => exact (show False from rb).elim
end
end MP
end

section
set_option Elab.async false
set_option linter.all false
set_option maxRecDepth 100000
set_option maxHeartbeats 8000000
/-! MiniPy: o[i] = v. -/
namespace MP
open PySem PySem.Spec PyProof.Rows L2

section
variable {G : Glo} {N : List Str} {A : Nm} {T : Tab} {cal : Nat → List W → Hs → R W} {k : Nat} {X : Cx} {sc sc' : Scope} {wf : Nat}
theorem s_idxSet (C : Cok G N A T cal k X sc) {a i e : Ex} {o j x : Expr} {p pos : Pos} (sa : SE A T X o (evE T cal a)) (si : SE A T X j (evE T cal i)) (se : SE A T X x (evE T cal e)) : SS A T X (.Assign [.Subscript o j p] x pos) (evS T cal wf (.idxSet a i e)) := by
  intro E tk m H σ env h D hr he out pins s I
  have hs : swapsWith x (some (.Subscript o j p)) pos.line X.env = pure false := by cases x <;> rfl
  rw [evS] at out
  have key := se _ tk m H σ env h (fun v H1 => tE X o σ H1 (fun y H2 => tE X j σ H2 (fun z H3 => ∀ pins s u1 u2 u3, Inv X pins σ H3 s → RelV y u1 → RelV z u2 → RelV v u3 → wpAny (model X.prog X.w) X.A (setItem u1 u2 u3) (fun _ s' => SP X pins D .next s') X.xe s))) hr he (Out.bind out fun w h1 m1 H1 v e1 s1 hr1 r1 o1 => ?_)
  · refine wpAny_Assign_Subscript (thn (key pins s I) fun r s1 ⟨v, H1, I1, rv, q1⟩ => thn (q1 pins s1 I1) fun u s2 ⟨y, H2, I2, rx, q2⟩ => thn (q2 pins s2 I2) fun iv s3 ⟨z, H3, I3, ry, q3⟩ => ?_) hs
    exact q3 pins s3 u iv r I3 rx ry rv
  · refine sa _ tk m1 H1 σ env h1 _ hr1 (he.mono s1) (Out.bind o1 fun w2 h2 m2 H2 y e2 s2 hr2 r2 o2 => ?_)
    refine si _ tk m2 H2 σ env h2 _ hr2 ((he.mono s1).mono s2) (Out.bind o2 fun w3 h3 m3 H3 z e3 s3 hr3 r3 o3 => ?_)
    intro pins s u1 u2 u3 I ry rz rv
    have hm := ((he.mono s1).mono s2).mono s3
    have r1' := (r1.mono s2).mono s3
    have r2' := r2.mono s3
    cases w2 with
    | ref n =>
      obtain ⟨q, eq, rfl⟩ := rel_ref r2'
      dsimp only at o3
      split at o3
      · rename_i xs ec
        obtain ⟨vs, hq, rr⟩ := hr3.cell _ _ _ ec eq
        have nf : ∀ o u, H3 q ≠ some (.frz o u) := fun _ _ z => by rw [hq] at z; cases z
        cases w3 with
        | int jj =>
          dsimp only at o3
          split at o3
          · rename_i nn en
            have st := Stp.wrote (o := .lst (vs.set nn v)) eq (fun _ => (hr3.cell _ _ _ ec eq).notTup) nf
            refine thn (set_list pins s σ H3 (.ref q) z v u1 u2 u3 (fun H' => D.nx σ H') I ry rz rv ⟨q, vs, jj, nn, rfl, r3, hq, by rw [← rr.length]; exact en, ?_⟩) fun _ s' ⟨H', I', q'⟩ => ⟨σ, H', I', q'⟩
            exact fl_next o3 st (hr3.wrote eq ec nf fun s => ⟨_, upd_same, (rr.mono s).set nn (r1'.mono s)⟩) (hm.mono st)
          · exact (show False from o3).elim
        | _ => exact (show False from o3).elim
      · rename_i kvs ec
        obtain ⟨ks, hq, rr⟩ := hr3.cell _ _ _ ec eq
        have nf : ∀ o u, H3 q ≠ some (.frz o u) := fun _ _ z => by rw [hq] at z; cases z
        obtain ⟨cc, o3⟩ := out_if o3
        simp only [Bool.and_eq_true, decide_eq_true_eq] at cc
        obtain ⟨kk, rfl, rfl⟩ := key_rel cc.1 r3
        have st := Stp.wrote (o := .dK (putK ks kk v)) eq (fun _ => (hr3.cell _ _ _ ec eq).notTup) nf
        have eu : u1 = Value.ref q := ry
        subst eu
        refine d_setItem (H' := upd H3 q (.dK (putK ks kk v))) (by have := C.room.units; omega) I (.inl ⟨ks, kk, hq, rfl, by rw [sz, relKV_len rr]; exact cc.2, rfl⟩) rz rv fun s' I' => ⟨σ, _, I', ?_⟩
        exact fl_next o3 st (hr3.wrote eq ec nf fun s => ⟨_, upd_same, relKV_put (r1'.mono s) (rr.mono s)⟩) (hm.mono st)
      · exact (show False from o3).elim
    | _ => exact (show False from o3).elim
end
end MP
end

section
set_option Elab.async false
set_option linter.all false
set_option maxRecDepth 100000
set_option maxHeartbeats 8000000
/-! MiniPy: name = [.. for ..]. -/
namespace MP
open PySem PySem.Spec PyProof.Rows L2

section
variable {G : Glo} {N : List Str} {A : Nm} {T : Tab} {cal : Nat → List W → Hs → R W} {k : Nat} {X : Cx} {sc sc' : Scope} {wf : Nat}
/-- a list made on the spot becomes one that the map knows: the outcome -/
theorem lst_more {K : PySem.W.Frag} {m m1 : Mp} {h1 : Hs} {H H1 : Hp} {ws : List W} {v : V} (s1 : Stp m H m1 H1) (hr1 : HRel K A m1 h1 H1) (r1 : RelD A K H m1 H1 ws v) : ∃ D, v = .ref D ∧ Stp m H (m1 ++ [D]) H1 ∧ HRel K A (m1 ++ [D]) (h1 ++ [.lst ws]) H1 ∧ (m1 ++ [D])[h1.length]? = some D := by
  obtain ⟨D, vs, rfl, hD, nD, n0, rv⟩ := r1
  have pre : ∀ (r : Nat) a, m1[r]? = some a → (m1 ++ [D])[r]? = some a := fun r a e => by rw [List.getElem?_append_left (getE_lt e)]; exact e
  refine ⟨D, rfl, ⟨fun r a e => pre r a (s1.pre r a e), s1.fr, s1.tp, fun a ha => ?_, s1.fz⟩, hr1.more hD nD (rels_more pre ws vs rv), grown_at hr1⟩
  rcases List.mem_append.mp ha with z | z
  · exact s1.nw a z
  · rw [List.mem_singleton.mp z]; exact .inr n0
def setLcR (T : Tab) (cal : Nat → List W → Hs → R W) (i : Nat) (e : Ex) (t : Tg) (s : Sr) (c : Cnd) (ws : List Nat) (env : Env) (h : Hs) : R Fl := (compR T cal e t s c ws env h).bind fun ws h1 => if i < env.length then .ok (.next (env.set i (some (.ref h1.length)))) (h1 ++ [.lst ws]) else .stuck
theorem setLc_core (C : Cok G N A T cal k X sc) {i : Nat} {y : Str} {py q pos : Pos} {e : Ex} {t : Tg} {s : Sr} {c : Cnd} {ws0 : List Nat} {el tg it : Expr} {ifs : List Expr} (hy : N[i]? = some y) (hyl : X.env.scope.names.lookup y = some .local) (hsw : swapsWith (.ListComp el [⟨tg, it, ifs, 0⟩] sc' q) (some (.Name y py)) pos.line X.env = pure true)
    (gi : good it = true) (hb : trB N sc sc' ws0 = true) (ht : trT N sc' t tg = true) (hs : SR A T X tg it (evSr T cal s))
    (hc : ∀ X', BX X sc' X' → SB A T X' ifs (evC T cal c)) (hE : ∀ X', BX X sc' X' → SE A T X' el (evE T cal e)) : SS A T X (.Assign [.Name y py] (.ListComp el [⟨tg, it, ifs, 0⟩] sc' q) pos) (setLcR T cal i e t s c ws0) := by
  intro E tk m H σ env h D hr he o
  obtain ⟨hb1, hb2⟩ := trB_inv hb
  have bo := blk_ok C hb1
  refine tS_of (ps_setLc (g := tGB X sc' tg) (tt := tTB X sc' ifs) (te := tEB X sc' el) C.calm (by rw [C.hN]; exact C.nd) (i := i) (by rw [C.hN]; exact hy) hyl hsw (pi_w (X := X)) bo (fun s H Cc cl fp => ⟨fun pins s' σ' H' v u Q' I r q => q _ ⟨s, H, Cc, cl, fp, rfl⟩ pins s' u I r⟩)
    (fun s H Cc cl fp => ⟨fun pins s' σ' H' Q' I q => q _ ⟨s, H, Cc, cl, fp, rfl⟩ pins s' I⟩) (fun s H Cc cl fp => ⟨fun pins s' σ' H' Q' I q => q _ ⟨s, H, Cc, cl, fp, rfl⟩ pins s' I⟩) (not_set_fold gi _)) ?_
  rw [hb2]
  refine comp_tlc C hb ht hs hc hE tk hr he ?_
  unfold setLcR at o
  cases er : compR T cal e t s c ws0 env h with
  | stuck => rw [er] at o; exact o
  | raise cc vs h1 => rw [er] at o; exact o
  | ok ws h1 =>
    rw [er] at o
    obtain ⟨_, o⟩ := out_if o
    intro m1 H1 v s1 hr1 r1
    obtain ⟨Dl, rfl, st, hr2, gt⟩ := lst_more s1 hr1 r1
    exact fl_next o st hr2 (envR_set (he.mono st) ⟨Dl, gt, rfl⟩)
theorem s_setLc (C : Cok G N A T cal k X sc) {i : Nat} {y : Str} {py q pos : Pos} {e : Ex} {t : Tg} {s : Sr} {c : Cnd} {ws0 : List Nat} {el tg it : Expr} {ifs : List Expr} (hy : N[i]? = some y) (hyl : X.env.scope.names.lookup y = some .local) (hsw : swapsWith (.ListComp el [⟨tg, it, ifs, 0⟩] sc' q) (some (.Name y py)) pos.line X.env = pure true)
    (gi : good it = true) (hb : trB N sc sc' ws0 = true) (ht : trT N sc' t tg = true) (hs : SR A T X tg it (evSr T cal s))
    (hc : ∀ X', BX X sc' X' → SB A T X' ifs (evC T cal c)) (hE : ∀ X', BX X sc' X' → SE A T X' el (evE T cal e)) : SS A T X (.Assign [.Name y py] (.ListComp el [⟨tg, it, ifs, 0⟩] sc' q) pos) (evS T cal wf (.asg (.name i) (.lst (.comp e t s c ws0)))) := by
  intro E tk m H σ env h D hr he o
  have o : Out X.K A T (RelFl A X.K) m H ((locked (lockOf env h s) (compR T cal e t s c ws0 env) h).bind fun ws h1 => if i < env.length then .ok (.next (env.set i (some (.ref h1.length)))) (h1 ++ [.lst ws]) else .stuck) (endQ D) E := by
    have eL : evL T cal (.comp e t s c ws0) env h = locked (lockOf env h s) (compR T cal e t s c ws0 env) h := by rw [evL]; rfl
    rw [evS, evE, eL] at o
    cases er : locked (lockOf env h s) (compR T cal e t s c ws0 env) h with
    | stuck => rw [er] at o; exact o
    | raise cc vs h1 => rw [er] at o; exact o
    | ok ws h1 =>
      rw [er] at o
      simp only [bind_ok, asgTg] at o
      rw [bind_ok]
      by_cases hi : i < env.length
      · rw [if_pos hi] at o ⊢; exact o
      · rw [if_neg hi] at o; exact (show False from o).elim
  have core := setLc_core (pos := pos) (py := py) (q := q) C hy hyl hsw gi hb ht hs hc hE
  cases elk : lockOf env h s with
  | none => rw [elk] at o; exact core E tk m H σ env h D hr he o
  | some p =>
    obtain ⟨r, kvs⟩ := p
    rw [elk] at o
    have ec := lockOf_inv elk
    obtain ⟨d, e1, _⟩ := hr.addr ec
    obtain ⟨ks, q0, rk, lk⟩ := lock_parts hr e1 ec
    -- the locked run
    unfold locked at o
    dsimp only at o
    cases er : compR T cal e t s c ws0 env (h.set r (.fdc kvs)) with
    | stuck => rw [er] at o; exact (show False from o).elim
    | raise cc vs h1 => rw [er] at o; exact (show False from o).elim
    | ok ws h2 =>
      rw [er] at o
      by_cases c0 : h2[r]? = some (.fdc kvs)
      · have o : Out X.K A T (RelFl A X.K) m H ((if h2[r]? = some (.fdc kvs) then R.ok ws (h2.set r (.dct kvs)) else .stuck).bind fun ws h1 => if i < env.length then .ok (.next (env.set i (some (.ref h1.length)))) (h1 ++ [.lst ws]) else .stuck) (endQ D) E := o
        rw [if_pos c0, bind_ok] at o
        obtain ⟨hi, o⟩ := out_if o
        rw [List.length_set] at o
        refine tS_of (ps_lock ps_w) ⟨d, .dK ks, q0, trivial, fun od => ?_⟩
        obtain ⟨hr1, s1⟩ := lk od
        refine core E tk m _ σ env (h.set r (.fdc kvs)) _ hr1 (he.mono s1) ?_
        unfold setLcR
        rw [er, bind_ok, if_pos hi]
        intro m' H' bx s' hr' rb
        have lt := getE_lt c0
        have c1 : (h2 ++ [Cell.lst ws])[r]? = some (.fdc kvs) := by rw [List.getElem?_append_left lt]; exact c0
        obtain ⟨u1, u2, u3⟩ := unlock_parts hr e1 q0 rk s' hr' c1
        have nt : ∀ vs, ¬ Rd H' d (.tup vs) := fun vs z => by rcases z with z | ⟨u, z⟩ <;> rw [u1] at z <;> cases z
        rw [List.set_append_left _ _ lt] at u3
        cases bx with
        | nx σ4 => exact ⟨u1, fl_next o u2 u3 ⟨rb.1, fun i w e => let ⟨v, a, b⟩ := rb.2 i w e; ⟨v, a, relW_up (side_tp u1 nt) _ _ b⟩⟩⟩
        | _ => exact (show False from rb).elim
      · have o : Out X.K A T (RelFl A X.K) m H ((if h2[r]? = some (.fdc kvs) then R.ok ws (h2.set r (.dct kvs)) else .stuck).bind fun ws h1 => if i < env.length then .ok (.next (env.set i (some (.ref h1.length)))) (h1 ++ [.lst ws]) else .stuck) (endQ D) E := o
        rw [if_neg c0] at o
        exact (show False from o).elim
end
end MP
end

section
set_option Elab.async false
set_option linter.all false
set_option maxRecDepth 100000
set_option maxHeartbeats 8000000
/-! MiniPy: parallel assignment. -/
namespace MP
open PySem PySem.Spec PyProof.Rows L2

section
variable {G : Glo} {N : List Str} {A : Nm} {T : Tab} {cal : Nat → List W → Hs → R W} {k : Nat} {X : Cx} {sc sc' : Scope} {wf : Nat}
/-- the stores of a parallel assignment go from the right -/
def swOk (ls : List Nat) (vs : List Expr) : Bool := ls.all (· == ls.headD 0) && !(vs.all (foldedForSure 8)) && !(vs.all (constantsAlone 8))
theorem no_star {vs : List Expr} (h : vs.all good = true) : (vs.any fun | .Starred .. => true | _ => false) = false := by
  induction vs with
  | nil => rfl
  | cons v vs ih =>
    rw [List.all_cons, Bool.and_eq_true] at h
    rw [List.any_cons, ih h.2, Bool.or_false]
    have := h.1
    cases v <;> first | rfl | cases this
theorem sw2 {env : PySem.Env} {x y : Str} {px py pt pt2 : Pos} {a b : Expr} {kt k2 : Nat} (hk : env.scope.kind = .function) (hx : env.scope.names.lookup x = some .local) (hy : env.scope.names.lookup y = some .local) (hxy : x ≠ y) (g : [a, b].all good = true) (h : swOk [px.line, py.line] [a, b] = true) :
    swappedStores [.Tuple [.Name x px, .Name y py] kt pt] (.Tuple [a, b] k2 pt2) env = pure (some [x, y]) := by
  unfold swOk at h
  simp only [Bool.and_eq_true, Bool.not_eq_true'] at h
  obtain ⟨⟨h1, h2⟩, h3⟩ := h
  have hl : (py.line == px.line) = true := by
    simp only [List.all_cons, List.headD_cons, Bool.and_eq_true] at h1
    exact h1.2.1
  have hb : (env.blockKind != .function) = false := by
    unfold Env.blockKind
    rw [hk]; rfl
  have ns := no_star g
  unfold swappedStores
  simp only [List.length_cons, List.length_nil, hb]
  rw [if_neg (by decide)]
  refine Eq.trans (if_neg fun hh => Bool.noConfusion ((hh.symm.trans ns : true = false))) ?_
  have e1 : (env.kindOf x == some NameKind.local) = true := by show (env.scope.names.lookup x == some NameKind.local) = true; rw [hx]; rfl
  have e2 : (env.kindOf y == some NameKind.local) = true := by show (env.scope.names.lookup y == some NameKind.local) = true; rw [hy]; rfl
  have hn : (List.filterMap (fun
    | Expr.Name id pos => if env.kindOf id == some .local && pos.line == px.line then some id else none
    | _ => none) [Expr.Name x px, Expr.Name y py]) = [x, y] := by
    simp only [List.filterMap_cons, List.filterMap_nil, e1, e2, hl, Bool.true_and, beq_self_eq_true, if_true]
  have key : ∀ names : List Str, names = [x, y] → (if (names.length != 2 || names.eraseDups.length != names.length) = true then pure none else if [a, b].all (foldedForSure 8) = true then pure none else if [a, b].all (constantsAlone 8) = true then (do unsupported "assign.tuple-of-constant-expressions:order-of-the-stores"; pure (some names)) else pure (some names) : Sem (Option (List Str))) = pure (some [x, y]) := by
    intro names e
    subst e
    have ed : ([x, y] : List Str).eraseDups = [x, y] := by
      have : (y == x) = false := by simpa using fun h => hxy h.symm
      simp [List.eraseDups_cons, this]
    rw [if_neg (by rw [ed]; simp), if_neg (by rw [h2]; decide), if_neg (by rw [h3]; decide)]
  exact key _ hn
theorem filterMap_lt {α β : Type} {f : α → Option β} : ∀ {l : List α} {a : α}, a ∈ l → f a = none → (l.filterMap f).length < l.length
  | [], _, h, _ => by cases h
  | b :: r, a, h, e => by
    rw [List.filterMap_cons]
    rcases List.mem_cons.mp h with rfl | h
    · rw [e]
      have := List.length_filterMap_le f r
      simp only [List.length_cons]
      omega
    · have := filterMap_lt h e
      cases hb : f b with
      | none => simp only [List.length_cons]; omega
      | some c => simp only [List.length_cons]; omega
/-- a name among them is no plain local: the stores go as ever -/
theorem swN {env : PySem.Env} {ts vs : List Expr} {pt pt2 : Pos} {kt k2 : Nat} {x : Str} {px : Pos} (hm : Expr.Name x px ∈ ts) (hx : (env.scope.names.lookup x == some .local) = false) : swappedStores [.Tuple ts kt pt] (.Tuple vs k2 pt2) env = pure none := by
  unfold swappedStores
  dsimp only
  by_cases h1 : (!(ts.length == 2 || ts.length == 3) || vs.length != ts.length || env.blockKind != .function) = true
  · exact if_pos h1
  · refine Eq.trans (if_neg h1) ?_
    split
    · rfl
    · refine if_pos ?_
      rw [Bool.or_eq_true]
      left
      have := filterMap_lt (f := (fun
        | Expr.Name id pos => if env.kindOf id == some .local && pos.line == ((ts.head?.map (·.pos.line)).getD 0) then some id else none
        | _ => none)) hm (by
          have e1 : (env.kindOf x == some NameKind.local) = false := hx
          simp only [e1, Bool.false_and, Bool.false_eq_true, if_false])
      simp only [bne_iff_ne, ne_eq]
      exact Nat.ne_of_lt this
end
end MP
end

section
set_option Elab.async false
set_option linter.all false
set_option maxRecDepth 100000
set_option maxHeartbeats 8000000
/-! MiniPy: parallel assignment of names. -/
namespace MP
open PySem PySem.Spec PyProof.Rows L2

section
variable {G : Glo} {N : List Str} {A : Nm} {T : Tab} {cal : Nat → List W → Hs → R W} {k : Nat} {X : Cx} {sc sc' : Scope} {wf : Nat}
def tgOf : List Nat → Tg
  | [] => .nil
  | i :: r => .cons (.name i) (tgOf r)
theorem asg_setAll {h : Hs} : ∀ (is : List Nat) (ws : List W) (env : Env), asgTg h (tgOf is) (.tup ws) env = setAll is ws env
  | [], [], env => rfl
  | [], _ :: _, env => rfl
  | _ :: _, [], env => rfl
  | i :: is, w :: ws, env => by
    simp only [tgOf, asgTg, unTup, setAll]
    by_cases hi : i < env.length
    · rw [if_pos hi, if_pos hi]; exact asg_setAll is ws _
    · rw [if_neg hi, if_neg hi]; rfl
theorem setAll_len : ∀ (is : List Nat) (ws : List W) (env e1 : Env), setAll is ws env = some e1 → ws.length = is.length
  | [], [], _, _, _ => rfl
  | [], _ :: _, _, _, h => nomatch h
  | _ :: _, [], _, _, h => nomatch h
  | i :: is, w :: ws, env, e1, h => by
    simp only [setAll] at h
    split at h
    · rw [List.length_cons, List.length_cons, setAll_len is ws _ e1 h]
    · cases h
/-- the plain case -/
theorem s_asgTN (C : Cok G N A T cal k X sc) {is : List Nat} {es : Exs} {ts vs : List Expr} {n n2 : Nat} {p p2 pos : Pos} {x : Str} {px : Pos} (ht : trT N sc (tgOf is) (.Tuple ts n p) = true) (hz : is.length ≤ 3) (hm : Expr.Name x px ∈ ts) (hx : (X.env.scope.names.lookup x == some .local) = false) (al : AllSE A T cal X es vs) :
    SS A T X (.Assign [.Tuple ts n p] (.Tuple vs n2 p2) pos) (evS T cal wf (.asgT is es)) := by
  intro E tk m H σ env h D hr he o
  refine tS_of (ps_asg pe_w pg_w (no_swap (e := .Tuple vs n2 p2) rfl (some (.Tuple ts n p)) pos.line X.env) (swN hm hx) (by rw [not_star ht]; rfl)) ?_
  rw [evS] at o
  refine s_tup (s_all al) _ tk m H σ env h _ hr he ?_
  rw [evE]
  cases er : evEs T cal es env h with
  | stuck => rw [er] at o; exact o
  | raise c us h1 => rw [er] at o; exact o
  | ok ws h1 =>
    rw [er] at o
    rw [bind_ok] at o ⊢
    cases ea : setAll is ws env with
    | none => rw [ea] at o; exact (show False from o).elim
    | some e1 =>
      rw [ea] at o
      have hl := setAll_len is ws env e1 ea
      rw [if_pos (by rw [hl]; unfold SZ; omega)]
      intro m1 H1 v s1 hr1 r1
      exact s_tg C (tgOf is) (.Tuple ts n p) ht m1 H1 σ env h1 (.tup ws) v e1 _ hr1 (he.mono s1) r1 (by rw [asg_setAll]; exact ea) fun σ' he' _ => fl_next o s1 hr1 he'
/-- two plain local names -/
theorem s_asgT2 (C : Cok G N A T cal k X sc) {i j : Nat} {es : Exs} {x y : Str} {px py : Pos} {a b : Expr} {n n2 : Nat} {p p2 pos : Pos} (hi : N[i]? = some x) (hj : N[j]? = some y) (hij : i ≠ j) (hx : X.env.scope.names.lookup x = some .local) (hy : X.env.scope.names.lookup y = some .local)
    (hs : swOk [px.line, py.line] [a, b] = true) (al : AllSE A T cal X es [a, b]) : SS A T X (.Assign [.Tuple [.Name x px, .Name y py] n p] (.Tuple [a, b] n2 p2) pos) (evS T cal wf (.asgT [i, j] es)) := by
  intro E tk m H σ env h D hr he o pins s I
  have hxy : x ≠ y := fun e => hij (nodup_get C.nd (e ▸ hi) hj)
  refine (ps_par C.calm (by rw [C.hN]; exact C.nd) (by rw [C.hN]; exact hi) (by rw [C.hN]; exact hj) hij hx hy pa_w (sw2 I.ok.kind hx hy hxy al.good hs)).run pins s σ H D I ?_
  rw [evS] at o
  refine s_all al _ tk m H σ env h _ hr he (Out.bind o fun ws h1 m1 H1 vs e1 s1 hr1 r1 o1 => ?_)
  cases ea : setAll [i, j] ws env with
  | none => rw [ea] at o1; exact (show False from o1).elim
  | some e2 =>
    rw [ea] at o1
    have hl := setAll_len _ _ _ _ ea
    match ws, hl with
    | [w1, w2], _ =>
      obtain ⟨v1, v2, rfl, r2, r3⟩ := rel2 r1
      simp only [setAll] at ea
      split at ea <;> first | (cases ea; done) | skip
      split at ea <;> first | (cases ea; done) | skip
      cases ea
      exact ⟨v1, v2, rfl, fl_next o1 .rfl' hr1 (envR_set (envR_set (he.mono s1) r2) r3)⟩
end
end MP
end

section
set_option Elab.async false
set_option linter.all false
set_option maxRecDepth 100000
set_option maxHeartbeats 8000000
/-! MiniPy: a.x, a.y = .., .. -/
namespace MP
open PySem PySem.Spec PyProof.Rows L2

section
variable {G : Glo} {N : List Str} {A : Nm} {T : Tab} {cal : Nat → List W → Hs → R W} {k : Nat} {X : Cx} {sc sc' : Scope} {wf : Nat}
def gFld (K : PySem.W.Frag) (to : TE) (f : Str) : TG := fun v σ H Q => to σ H fun o H1 => ∃ a C dx fs, o = .ref a ∧ H1 a = some (.ins C dx fs) ∧ Cls K C ∧ NoAttr K C f ∧ fs.length < 1000 ∧ Q σ (upd H1 a (.ins C dx (putF f v fs)))
theorem pg_fld {o : Expr} {to : TE} {f : Str} {pos : Pos} (ho : PE X o to) : PG X (.Attribute o f pos) (gFld X.K to f) := by
  refine ⟨fun pins s σ H v u Q I r h => ?_⟩
  rw [arm_assign_Attribute]
  refine wpAny_bind (wpAny_holding (thn (ho.run pins s σ H _ I h) fun ov s1 ⟨x, H1, I1, rx, a, C, dx, fs, ex, ea, c, n, l, q⟩ => ?_))
  subst ex
  obtain rfl : ov = Value.ref a := rx
  refine wpAny_bind (wpAny_standAt (wpAny_bind (wpAny_holding (setattr_ok I1 ea c n l r fun s3 I3 => ?_))))
  exact wpAny_release ⟨σ, _, I3, q⟩
/-- the targets of a.x, b.y = .. -/
def trFs (G : Glo) (N : List Str) (sc : Scope) : List Nat → List Nat → List Expr → Bool
  | [], [], [] => true
  | i :: is, f :: fs, .Attribute (.Name x _) y _ :: es => nmV N sc x i && decide (G.fi.lookup y = some f) && trFs G N sc is fs es
  | _, _, _ => false
theorem trFs_len (env : PySem.Env) : ∀ (is fs : List Nat) (es : List Expr), trFs G N sc is fs es = true → (assignEach es env).length = es.length ∧ (assignEach es env).findIdx? (·.1) = none ∧ es.length = is.length ∧ (∀ e ∈ es, ∃ o f p, e = Expr.Attribute o f p)
  | [], [], [], _ => ⟨rfl, rfl, rfl, fun _ h => by cases h⟩
  | i :: is, f :: fs, e :: es, h => by
    cases e with
    | Attribute o y q =>
      cases o with
      | Name x p =>
        simp only [trFs, Bool.and_eq_true] at h
        obtain ⟨i1, i2, i3, i4⟩ := trFs_len env is fs es h.2
        have e0 : assignEach (.Attribute (.Name x p) y q :: es) env = (false, assign (.Attribute (.Name x p) y q) env) :: assignEach es env := rfl
        rw [e0]
        refine ⟨by rw [List.length_cons, List.length_cons, i1], by rw [List.findIdx?_cons]; simp [i2], by rw [List.length_cons, List.length_cons, i3], fun e he => ?_⟩
        rcases List.mem_cons.mp he with rfl | he
        · exact ⟨_, _, _, rfl⟩
        · exact i4 e he
      | _ => simp [trFs] at h
    | _ => simp [trFs] at h
  | [], [], _ :: _, h => by simp [trFs] at h
  | [], _ :: _, _, h => by simp [trFs] at h
  | _ :: _, [], _, h => by simp [trFs] at h
  | _ :: _, _ :: _, [], h => by simp [trFs] at h
theorem s_tgsF (C : Cok G N A T cal k X sc) : ∀ (is fs : List Nat) (es : List Expr), trFs G N sc is fs es = true → ∀ (m : Mp) (H : Hp) (σ : L2.St) (env : Env) (h h2 : Hs) (ws : List W) (vs : List V) (Q : L2.St → Hp → Prop), HRel X.K A m h H → EnvR X.K A m H env σ → RelWs X.K A m H ws vs → putFs T env is fs ws h = some h2 →
    (∀ m' H', Stp m H m' H' → HRel X.K A m' h2 H' → Q σ H') → tGs X es vs σ H Q
  | [], [], [], _, m, H, σ, env, h, h2, ws, vs, Q, hr, he, rv, ea, q => by
    cases ws with
    | nil =>
      cases ea
      rw [(show vs = [] from rv)]
      exact tGs_of pgs_nil ⟨rfl, q m H .rfl' hr⟩
    | cons _ _ => cases ea
  | i :: is, f :: fs, e :: es, ht, m, H, σ, env, h, h2, ws, vs, Q, hr, he, rv, ea, q => by
    cases e with
    | Attribute o y p =>
      cases o with
      | Name x px =>
        simp only [trFs, Bool.and_eq_true, decide_eq_true_eq] at ht
        obtain ⟨⟨t1, t2⟩, t3⟩ := ht
        cases ws with
        | nil => cases ea
        | cons w ws =>
          obtain ⟨v, vs', rfl, r1, rr⟩ := rv
          simp only [putFs] at ea
          split at ea <;> first | (cases ea; done) | skip
          rename_i a hea
          split at ea <;> first | (cases ea; done) | skip
          rename_i c gs ec
          split at ea <;> first | (cases ea; done) | skip
          rename_i hc
          have ey : A.fn f = y := C.fx.fi y f t2
          subst ey
          have pv : PE X (.Name x px) (tE X (.Name x px)) := pe_w
          refine tGs_of (pgs_cons (pg_fld pv) pgs_w rfl) ⟨v, vs', rfl, ?_⟩
          have sv := s_var (T := T) (cal := cal) (pos := px) C t1
          refine sv _ takes0 m H σ env h _ hr he ?_
          rw [evE, hea]
          intro m1 H1 v' s1 hr1 rv'
          obtain ⟨d, e2, rfl⟩ := rel_ref rv'
          obtain ⟨dx, fs2, hq, rf⟩ := hr1.cell _ _ _ ec e2
          have K1 := C.fx.cls c hc.2
          have nf : ∀ o u, H1 d ≠ some (.frz o u) := fun _ _ z => by rw [hq] at z; cases z
          have st := Stp.wrote (o := .ins (A.ca c) dx (putF (A.fn f) v fs2)) e2 (fun _ => (hr1.cell _ _ _ ec e2).notTup) nf
          have hr2 := hr1.wrote (c' := .ins c (fPut f w gs)) e2 ec nf (o := .ins (A.ca c) dx (putF (A.fn f) v fs2)) fun s => ⟨dx, _, upd_same, relFs_put C.fx.finj ((r1.mono s1).mono s) (rf.mono s)⟩
          refine ⟨d, A.ca c, dx, fs2, rfl, hq, K1.cl, K1.na _ f (by assumption), by rw [relFs_len rf]; omega, ?_⟩
          exact s_tgsF C is fs es t3 m1 _ σ env _ h2 ws vs' Q hr2 ((he.mono s1).mono st) ((rr.mono s1).mono st) ea fun m2 H2 s2 hr3 => q m2 H2 ((s1.trans st).trans s2) hr3
      | _ => simp [trFs] at ht
    | _ => simp [trFs] at ht
  | [], [], _ :: _, h, _, _, _, _, _, _, _, _, _, _, _, _, _, _ => by simp [trFs] at h
  | [], _ :: _, _, h, _, _, _, _, _, _, _, _, _, _, _, _, _, _ => by simp [trFs] at h
  | _ :: _, [], _, h, _, _, _, _, _, _, _, _, _, _, _, _, _, _ => by simp [trFs] at h
  | _ :: _, _ :: _, [], h, _, _, _, _, _, _, _, _, _, _, _, _, _, _ => by simp [trFs] at h
theorem swF {env : PySem.Env} {ts vs : List Expr} {pt pt2 : Pos} {kt k2 : Nat} {e : Expr} (hm : e ∈ ts) (hx : ∃ o f p, e = Expr.Attribute o f p) : swappedStores [.Tuple ts kt pt] (.Tuple vs k2 pt2) env = pure none := by
  obtain ⟨o, f, p, rfl⟩ := hx
  unfold swappedStores
  dsimp only
  by_cases h1 : (!(ts.length == 2 || ts.length == 3) || vs.length != ts.length || env.blockKind != .function) = true
  · exact if_pos h1
  · refine Eq.trans (if_neg h1) ?_
    split
    · rfl
    · refine if_pos ?_
      rw [Bool.or_eq_true]
      left
      have := filterMap_lt (f := (fun
        | Expr.Name id pos => if env.kindOf id == some .local && pos.line == ((ts.head?.map (·.pos.line)).getD 0) then some id else none
        | _ => none)) hm rfl
      simp only [bne_iff_ne, ne_eq]
      exact Nat.ne_of_lt this
theorem s_fldT (C : Cok G N A T cal k X sc) {is fs : List Nat} {es : Exs} {ts vs : List Expr} {n n2 : Nat} {p p2 pos : Pos} (ht : trFs G N sc is fs ts = true) (hz : is.length ≤ 3) (h0 : is.length ≠ 0) (al : AllSE A T cal X es vs) :
    SS A T X (.Assign [.Tuple ts n p] (.Tuple vs n2 p2) pos) (evS T cal wf (.fldT is fs es)) := by
  intro E tk m H σ env h D hr he o
  obtain ⟨l1, l2, l3, l4⟩ := trFs_len X.env is fs ts ht
  have hmem : ∃ e, e ∈ ts := by
    cases ts with
    | nil => exact absurd l3.symm h0
    | cons e r => exact ⟨e, List.mem_cons_self⟩
  obtain ⟨e0, he0⟩ := hmem
  refine tS_of (ps_asg pe_w (pg_tup C.calm pgs_w l1 l2) (no_swap (e := .Tuple vs n2 p2) rfl (some (.Tuple ts n p)) pos.line X.env) (swF he0 (l4 e0 he0)) rfl) ?_
  rw [evS] at o
  refine s_tup (s_all al) _ tk m H σ env h _ hr he ?_
  rw [evE]
  cases er : evEs T cal es env h with
  | stuck => rw [er] at o; exact o
  | raise c us h1 => rw [er] at o; exact o
  | ok ws h1 =>
    rw [er] at o
    rw [bind_ok] at o ⊢
    cases ea : putFs T env is fs ws h1 with
    | none => rw [ea] at o; exact (show False from o).elim
    | some h2 =>
      rw [ea] at o
      have hl : ws.length = is.length := by
        have : ∀ (is fs : List Nat) (ws : List W) (h h2 : Hs), putFs T env is fs ws h = some h2 → ws.length = is.length := by
          intro is
          induction is with
          | nil => intro fs ws h h2 e; cases fs <;> cases ws <;> first | rfl | cases e
          | cons i is ih =>
            intro fs ws h h2 e
            cases fs <;> cases ws <;> first | (cases e; done) | skip
            simp only [putFs] at e
            split at e <;> first | (cases e; done) | skip
            split at e <;> first | (cases e; done) | skip
            split at e <;> first | (cases e; done) | skip
            rw [List.length_cons, List.length_cons, ih _ _ _ _ e]
        exact this _ _ _ _ _ ea
      rw [if_pos (by rw [hl]; unfold SZ; omega)]
      intro m1 H1 v s1 hr1 r1
      obtain ⟨q, us, rfl, hq, rv⟩ := rel_tup r1
      refine ⟨q, us, rfl, hq, by rw [← rv.length, hl, ← l3], ?_⟩
      exact s_tgsF C is fs ts ht m1 H1 σ env h1 h2 ws us _ hr1 (he.mono s1) rv ea fun m2 H2 s2 hr2 => fl_next o (s1.trans s2) hr2 ((he.mono s1).mono s2)
end
end MP
end

section
set_option Elab.async false
set_option linter.all false
set_option maxRecDepth 100000
set_option maxHeartbeats 8000000
/-! MiniPy: raise; an exception's __init__. -/
namespace MP
open PySem PySem.Spec PyProof.Rows L2

section
variable {G : Glo} {N : List Str} {A : Nm} {T : Tab} {cal : Nat → List W → Hs → R W} {k : Nat} {X : Cx} {sc sc' : Scope} {wf : Nat}
theorem upd_del {H : Hp} {a d : Addr} {o o1 o2 o3 : HO} (n : H a = none) (h : d ≠ a) : upd (del (upd (upd (upd H a o) d o1) a o2) a) d o3 = upd H d o3 := by
  funext b
  by_cases hb : b = d
  · subst hb; rw [upd_same, upd_same]
  · rw [upd_ne hb, upd_ne hb]
    by_cases ha : b = a
    · subst ha; rw [del_same, n]
    · rw [del_ne ha, upd_ne ha, upd_ne hb, upd_ne ha]
theorem relWs_at {K : PySem.W.Frag} {m : Mp} {H : Hp} {ws : List W} {vs : List V} {j : Nat} {w : W} {v : V} (r : RelWs K A m H ws vs) (e : ws[j]? = some w) (e2 : vs[j]? = some v) : RelW K A m H w v := by
  obtain ⟨u, e3, r3⟩ := r.get e
  rw [e2] at e3; cases e3
  exact r3
theorem s_raise (C : Cok G N A T cal k X sc) {c : Nat} {es : Exs} {x : Str} {e0 : Expr} {xs : List Expr} {p q pos : Pos} (h1 : nmG sc x = true) (h2 : G.gc.lookup x = some c) (al : AllSE A T cal X es (e0 :: xs)) :
    SS A T X (.Raise (some (.Call (.Name x p) (e0 :: xs) [] q)) none pos) (evS T cal wf (.raise c es)) := by
  intro E tk m H σ env h D hr he o
  obtain ⟨g1, g2⟩ := nmG_gl C h1
  rw [evS] at o
  cases ef : T.exf c with
  | none => rw [ef] at o; exact (show False from o).elim
  | some fs =>
    rw [ef] at o
    have EX := C.fx.ex c fs ef
    obtain ⟨fI, fd, ps, iC, tI, F1, hb⟩ := EX.init
    have gd := al.good
    rw [List.all_cons, Bool.and_eq_true] at gd
    have mk : PMk X (.Call (.Name x p) (e0 :: xs) [] q) (tMkO (A.ca c) (spX A (A.ca c) fs) [] (tA X (e0 :: xs))) :=
      pmk_oex EX.T iC tI F1 (C.room.mono (by have := C.fx.k1; omega)) hb .nil (passes_call tk fun _ _ _ _ z => z.elim) g1 (C.fx.gc x c h2) pa_w g2 (star_cons gd.1 _ _) (stars gd.2 _ _)
    refine tS_of (ps_raise (W := fun c d _ H => E c d H) C.calm tk mk) ?_
    refine s_all al _ tk m H σ env h _ hr he (Out.bind o fun ws h1 m1 H1 vs e1 s1 hr1 r1 o1 => ?_)
    by_cases hl : ws.length = fs.length
    · rw [if_pos hl] at o1
      refine ⟨?_, fun a na => ?_⟩
      · rw [← r1.length, hl]; exact Nat.le_trans EX.fl (by decide)
      · refine ⟨a, vs, by rw [List.append_nil], by rw [← r1.length, hl], upd_same, fun d gs nd hda hg => ⟨rfl, d, gs, upd_same, by rw [upd_ne hda, upd_same], by rw [upd_ne hda] at nd; exact nd, ?_⟩⟩
        rw [upd_ne hda] at nd
        rw [upd_del na hda]
        have s2 : Stp m1 H1 m1 (upd H1 d (.xd gs)) := Stp.laid nd
        refine o1 m1 _ d gs s2 (hr1.laid nd) upd_same ⟨fs, ef, hl.symm, fun j f w e1 e2 => ?_⟩
        obtain ⟨v, e3, r3⟩ := r1.get e2
        exact ⟨v, hg j f v e1 e3, r3.mono s2⟩
    · rw [if_neg hl] at o1
      exact (show False from o1).elim
end
end MP
end

section
set_option Elab.async false
set_option linter.all false
set_option maxRecDepth 100000
set_option maxHeartbeats 8000000
/-! MiniPy: several named except clauses in one try. -/
namespace L2
open PySem PySem.Spec PyProof.Rows
/-- the ends behind a clause whose name stands at slot i -/
def dropI (i : Nat) (D : Ends) : Ends := { nx := fun σ' H' => D.nx (σ'.set i none) H', rt := D.rt, bk := fun σ' H' => D.bk (σ'.set i none) H', ct := fun σ' H' => D.ct (σ'.set i none) H' }
def wNamed (K : PySem.W.Frag) (Wout : WX) (D : Ends) : List (Value × Nat × (Addr → Value → Option Addr → TS)) → WX
  | [] => Wout
  | (c, i, ts) :: r => fun cls d σ H => ∃ b, PySem.W.exmOne K cls c = some b ∧ (b = true → ∀ a, H a = none → ts a cls d (dropI i D) (σ.set i (some (.ref a))) H) ∧ (b = false → wNamed K Wout D r cls d σ H)
inductive HdsN (X : Cx) : List ExceptHandler → List (Value × Nat × (Addr → Value → Option Addr → TS)) → Prop
  | nil : HdsN X [] []
  | cons {x n : Str} {c : Value} {i : Nat} {ts : Addr → Value → Option Addr → TS} {b₀ : Stmt} {suite : List Stmt} {np pos' : Pos} {hds : List ExceptHandler} {l : List (Value × Nat × (Addr → Value → Option Addr → TS))} (hc : Names X x c) (hi : X.N[i]? = some n) (hln : X.env.kindOf n = some .local)
      (hsu : ∀ (a : Addr) (oe : Obj) (cls : Value) (d : Option Addr) (pn : List (Addr × Obj)), Zc cls d oe → (∃ vs, oe.data = .fields vs) → PSs (X.suite a ((a, oe) :: pn)) (b₀ :: suite) (ts a cls d)) (r : HdsN X hds l) :
      HdsN X (.ExceptHandler (some (.Name x np)) (some n) (b₀ :: suite) pos' :: hds) ((c, i, ts) :: l)
section
variable {X : Cx} {body : List Stmt} {h₀ : ExceptHandler} {hds : List ExceptHandler} {l : List (Value × Nat × (Addr → Value → Option Addr → TS))} {pos : Pos} {tb : WX → TS} {Wout : WX}
theorem ps_try_named (hs : X.stack = X.env :: X.outer) (hf : X.env.frame = some X.env.locals) (hN : X.N.Nodup) (tk : Takes X Wout)
    (hb : ∀ (W : WX) (pn : List (Addr × Obj)) (xe : Value → Shared → Prop), Takes (X.tr pn xe) W → PassesOwn (model X.prog X.w) X.A X.env xe → PSs (X.tr pn xe) body (tb W))
    (hh : HdsN X (h₀ :: hds) l) : PS X (.Try body (h₀ :: hds) [] [] pos) (fun D σ H => tb (wNamed X.K Wout D l) D σ H) := by
  refine ⟨fun pins s σ H D I h => ?_⟩
  have ok := I.ok
  have hfr : X.A.frames = some (X.env :: X.outer) := by rw [ok.frames, hs]
  refine wpAny_Try_except ?_
  refine wpAny_mono ((hb (wNamed X.K Wout D l) (X.pn ++ pins) (fun e s₁ => wpAny (model X.prog X.w) X.A (noteFrame e X.env) (fun _ s₂ => wpAny (model X.prog X.w) X.A (setFlight e none) (fun _ s₃ =>
    wpAny (model X.prog X.w) X.A (handleBy e X.env (h₀ :: hds)) (SP X pins D) X.xe s₃) X.xe s₂) X.xe s₁) (fun u s' xx => ?_) PassesOwn.looking).run [] s σ H D (I.toTry _) h) (fun f s1 hsp => ?_) (fun e s1 he => he)
  · -- the catch
    obtain ⟨a, B, sI, pins', σ', H', cls, d, rfl, J', nb, up, sky, na, os, ag, w⟩ := xx
    have J : Inv X pins σ' H' sI := J'.ofTry ok
    have sky' : Sky B (X.env :: X.outer) a (Zc cls d) X.env.locals s'.heap := by rw [← hs]; exact sky
    show wpAny (model X.prog X.w) X.A (noteFrame (.ref a) X.env) _ _ _
    refine Sky.land Zc.steady hfr hf sky' fun h3 fl3 up3 => ?_
    have J3 : Inv X pins σ' H' { s' with heap := h3 } := J.landed nb fl3.1 (up.trans up3) os ag
    obtain ⟨oe3, vs3, he3, hz3, hd3⟩ := fl3.there
    have notFr : ∀ {h : Heap} {o : Obj} {vs : Array Value}, h.FunFrames B (X.env :: X.outer) → h.get? a = some o → o.data = .fields vs → a ∉ frs (X.env :: X.outer) := fun {h o vs} ff e dd hm => by
      obtain ⟨_, o', e', hnf⟩ := ff.mem hm
      rw [e] at e'; cases e'
      exact hnf _ dd
    have nfr := notFr fl3.2.2.1 he3 hd3
    have nL : a ≠ X.env.locals := fun z => nfr (List.mem_filterMap.mpr ⟨X.env, List.mem_cons_self, by rw [hf, z]⟩)
    have nF : a ∉ X.fs := fun hm => by
      obtain ⟨e, he, q⟩ := List.mem_filterMap.mp hm
      exact nfr (List.mem_filterMap.mpr ⟨e, List.mem_cons_of_mem _ he, q⟩)
    have S3 := J3.suite he3 hd3 na nL nF
    have go : ∀ {hds' : List ExceptHandler} {l' : List (Value × Nat × (Addr → Value → Option Addr → TS))}, HdsN X hds' l' → wNamed X.K Wout D l' cls d σ' H' →
        wpAny (model X.prog X.w) X.A (handleBy (.ref a) X.env hds') (SP X pins D) X.xe { s' with heap := h3 } := by
      intro hds' l' hk
      induction hk with
      | nil =>
        intro w
        refine wpAny_handleBy_nil ?_
        obtain ⟨k1, k2, k3, oe, vs, T, oT, ts', he, hz, hd, h1, hr⟩ := id fl3
        unfold PySem.passOn
        refine wpAny_bind (wpAny_field he hd h1 ?_)
        rw [if_neg (show ¬ ((Value.ref T == Value.none) = true) from by simp)]
        have fin : wpAny (model X.prog X.w) X.A (setFlight (.ref a) X.env.frame) (fun _ s4 => wpAny (model X.prog X.w) X.A (throw (.ref a) : Sem Flow) (SP X pins D) X.xe s4) X.xe { s' with heap := h3 } := by
          rw [hf]
          refine HandSPX.setFlight_upZ fl3 fun h4 hh4 up4 => wpAny_throw (tk _ _ ?_)
          exact ⟨a, B, sI, pins, σ', H', cls, d, rfl, J, nb, (up.trans up3).trans up4, .inr (.inr (by rw [hs]; exact hh4)), na, os, ag, w⟩
        first
          | exact wpAny_bind (wpAny_pure (wpAny_bind fin))
          | exact wpAny_bind fin
      | @cons x n c i ts b₀ suite np pos' hds2 l2 hc hi hln hsu r ih =>
        intro w
        obtain ⟨b, hb1, hyes, hno⟩ := w
        refine wpAny_handleBy_cons (codeAny_handlers_test ?_) (by intro q; cases q)
        have LT : PySem.W.Looks (model X.prog X.w) h3 (typeOf (.ref a)) cls := fun A Q E s k q => wpAny_typeOf_ref (k _ _ he3) (by rw [hz3.1]; exact q)
        have LM := PySem.W.exm_one (M := model X.prog X.w) (J3.kIn) LT hb1
        have test : ∀ {Q : Value → Shared → Prop} {E : Value → Shared → Prop}, Q c { s' with heap := h3 } → wpAny (model X.prog X.w) (X.A.mark (some (.ref a))) (eval (.Name x np) X.env) Q E { s' with heap := h3 } := fun {Q E} q => by
          obtain ⟨hg, hdbg, hm | ⟨hm, hv, hnn⟩⟩ := hc
          · exact ld_glob (X := X.suite a ((a, oe3) :: (X.pn ++ pins))) S3 hg hm q hdbg
          · exact ld_blt (X := X.suite a ((a, oe3) :: (X.pn ++ pins))) S3 hg hm hv q hnn hdbg
        refine test (LM.here ?_)
        cases b with
        | true =>
          refine codeAny_handlers_suite_as ?_
          refine HandSPX.lands_againZ fl3 fun h4 fl4 up4 => ?_
          have J4 : Inv X pins σ' H' { s' with heap := h4 } := J.landed nb fl4.1 ((up.trans up3).trans up4) os ag
          obtain ⟨oe4, vs4, he4, hz4, hd4⟩ := fl4.there
          have S4 := J4.suite he4 hd4 na nL nF
          have hloc : Loc X.env.scope n := .inl hln
          refine store_ok (X := X.suite a ((a, oe4) :: (X.pn ++ pins))) (v := .ref a) S4 hN hi hloc rfl (fun s5 S5 => ?_) (.inr hln)
          refine wpAny_mono ((hsu a oe4 cls d (X.pn ++ pins) hz4 ⟨_, hd4⟩).run [] s5 _ H' _ S5 (hyes rfl a na)) (fun f s6 hsp => ?_) (fun _ _ z => False.elim z)
          have end_ : ∀ {σ6 : St} {H6 : Hp} {Q : Shared → Prop}, Inv (X.suite a ((a, oe4) :: (X.pn ++ pins))) [] σ6 H6 s6 → (∀ s7, Inv X pins (σ6.set i none) H6 s7 → Q s7) →
              wpAny (model X.prog X.w) X.A (do bindName X.env n .none; unbindBehindTheSuite X.env n pos') (fun _ s7 => Q s7) X.xe s6 := fun {σ6 H6 Q} S6 hq => gone_ok (S6.unsuite ok) hN hi hln hq
          cases f with
          | next =>
            obtain ⟨σ6, H6, S6, q6⟩ := hsp
            exact end_ S6 fun s7 J7 => ⟨_, _, J7, q6⟩
          | brk =>
            obtain ⟨σ6, H6, S6, q6⟩ := hsp
            exact end_ S6 fun s7 J7 => ⟨_, _, J7, q6⟩
          | cont =>
            obtain ⟨σ6, H6, S6, q6⟩ := hsp
            exact end_ S6 fun s7 J7 => ⟨_, _, J7, q6⟩
          | ret u =>
            obtain ⟨v6, σ6, H6, S6, r6, q6⟩ := hsp
            exact end_ S6 fun s7 J7 => ⟨_, _, _, J7, r6, q6⟩
        | false =>
          show wpAny _ X.A (handleBy (.ref a) X.env hds2) _ _ _
          exact ih (hno rfl)
    exact go hh w
  · cases f with
    | next =>
      obtain ⟨σ', H', J', q⟩ := hsp
      exact wpAny_execs_nil ⟨σ', H', J'.ofTry ok, q⟩
    | brk =>
      obtain ⟨σ', H', J', q⟩ := hsp
      exact ⟨σ', H', J'.ofTry ok, q⟩
    | cont =>
      obtain ⟨σ', H', J', q⟩ := hsp
      exact ⟨σ', H', J'.ofTry ok, q⟩
    | ret u =>
      obtain ⟨v, σ', H', J', r, q⟩ := hsp
      exact ⟨v, σ', H', J'.ofTry ok, r, q⟩
end
end L2

namespace PySem.W
open PySem PySem.Spec PySem.Calls PyProof.Rows
section
variable {prog : Program} {w : World} {A : Around} {E : Value → Shared → Prop} {s : Shared} {K : Frag} {x D : Addr} {ox : Obj}
/-- isinstance's question of an exception that has a dict -/
theorem mpKinClass {Q : Option Value → Shared → Prop} {od : Option Obj} (hga : findIn K (.ref D) "__getattribute__" = some (some (.builtin "BaseException.__getattribute__"))) (hgt : findIn K (.ref D) "__getattr__" = some none) (hsub : subIn K (.ref D) (.type "BaseException") = some true)
    (hdct : hasDictIn K D = true) (ha : findIn K (.ref D) "__class__" = some (some (.builtin "object.__class__")))
    (hn : specialIn K (.builtin "object.__class__") "__get__" = some (some (.builtin "getset_descriptor.__get__"))) (htk : takesIn K (.builtin "object.__class__") = some true) (hm : mroIn K D (.type "object") = some true)
    (X : K.In s.heap) (I : InstAt s.heap x ox D od) (h : Q (some (.ref D)) { s with toks := s.toks + 1 }) : wpAny (model prog w) A (getAttr? (.ref x) "__class__") Q E s := by
  have hf : findObj K D od "__class__" = some (.bind (.builtin "getset_descriptor.__get__") (.builtin "object.__class__")) := by
    obtain ⟨cd, hc, _⟩ := any_some hdct
    unfold findObj
    rw [hc, Option.bind_some, ha, Option.bind_some]
    simp [hn, htk]
  obtain ⟨hp, g, d, t, os⟩ := s
  have L0 := I.type (M := model prog w)
  have L1 := looks_findIn (M := model prog w) X hga
  have L2 := looks_findIn (M := model prog w) X hgt
  have L3 := looks_find (M := model prog w) X I hf
  have sub : Looks (model prog w) hp (isInstance (.ref x) (.type "BaseException")) true := L0.andThen (looks_subIn X hsub)
  have hx0 : (false && onTheHeap (Value.builtin "BaseException.__getattribute__")) = false := rfl
  have hx2 : (Value.builtin "BaseException.__getattribute__" == Value.builtin "object.__getattribute__") = false := by decide +kernel
  have hx1 : (onTheHeap (Value.ref D) && Value.builtin "BaseException.__getattribute__" == Value.builtin "object.__getattribute__") = false := by rw [hx2]; rfl
  unfold getAttr? getAttrBy? getAttrBy
  refine wpAny_bind (wpAny_mkText (wpAny_bind (wpAny_attempt (wpAny_holding (wpAny_bind (L0.at (wpAny_bind (L1.at ?_))))))))
  show wpAny _ _ (if (onTheHeap (Value.ref D) && Value.builtin "BaseException.__getattribute__" == Value.builtin "object.__getattribute__") = true then _ else _) _ _ _
  rw [hx1, if_neg Bool.false_ne_true]
  unfold getAttrByItsOwn hookBefore
  refine wpAny_bind ?_
  rw [if_pos (show onTheHeap (Value.ref D) = true from rfl)]
  refine L2.at ?_
  refine wpAny_bind (wpAny_attempt (wpAny_holding ?_))
  unfold callGetattribute
  rw [hx0, if_neg Bool.false_ne_true]
  unfold boundAndCalled
  rw [PySem.F.excAttr_ValueError.ga.bind (.ref x)]
  refine wpAny_bind (wpAny_pure ?_)
  show wpAny _ _ (call (.builtin "BaseException.__getattribute__") [.ref x, .str "__class__" t]) _ _ _
  refine wpAny_call (codeAny_call_builtin PySem.F.excAttr_ValueError.ga.plain PySem.F.entry_bexc_ga ?_)
  refine @check_slot (model prog w) _ _ ⟨hp, g, d, t + 1, os⟩ "BaseException.__getattribute__" "BaseException" "__getattribute__" (.ref x) [.str "__class__" t] [] _ (by decide +kernel) (by decide +kernel) sub (PySem.F.args_bexc_ga (.ref x) (.str "__class__" t)) ?_
  unfold Builtin.«object.__getattribute__»
  refine wpAny_bind (wpAny_of_eq (a := ((Value.ref x : Value), [Value.str "__class__" t])) (by first | rfl | (simp only [slotArgs]; rfl)) ?_)
  refine wpAny_bind (wpAny_pure (wpAny_bind (L0.at (wpAny_bind (L3.at ?_)))))
  show wpAny _ _ (holding [Value.builtin "object.__class__"] (call (.builtin "getset_descriptor.__get__") [.builtin "object.__class__", .ref x, .ref D]) >>= ret) _ _ _
  refine wpAny_bind (wpAny_holding (wpAny_call (class_get (s := ⟨hp, g, d, t + 1, os⟩) (ox := ox) (od := od) X I hm ?_)))
  refine wpAny_pure ?_
  show wpAny _ _ (handedOut (.ref D)) _ _ _
  rw [handedOut_of (v := .ref D) rfl]
  first
    | exact wpAny_pure (wpAny_pure h)
    | exact wpAny_pure h
    | exact wpAny_pure (wpAny_bind (wpAny_pure (wpAny_pure h)))
theorem mpKitx {od : Option Obj} (hga : findIn K (.ref D) "__getattribute__" = some (some (.builtin "BaseException.__getattribute__"))) (hgt : findIn K (.ref D) "__getattr__" = some none) (hsub : subIn K (.ref D) (.type "BaseException") = some true) (hdct : hasDictIn K D = true) (ha : findIn K (.ref D) "__class__" = some (some (.builtin "object.__class__")))
    (hn : specialIn K (.builtin "object.__class__") "__get__" = some (some (.builtin "getset_descriptor.__get__"))) (htk : takesIn K (.builtin "object.__class__") = some true) (hm : mroIn K D (.type "object") = some true) :
    KitX K (.ref x) (.ref D) (fun h => InstAt h x ox D od) where
  ty := fun _ _ _ I => I.type
  it := fun _ _ X _ => by
    obtain ⟨cdD, hcD, _⟩ := any_some hdct
    unfold clsIn at hcD
    split at hcD
    · rename_i c' d' cd' sl' ho
      intro A' Q' E' s' k q
      unfold isType loadHead
      exact wpAny_bind (wpAny_loadPart (k _ _ (X _ _ ho)) (wpAny_pure q))
    · cases hcD
  ne := fun h tp dd its n sl X htp => by
    obtain ⟨cdD, hcD, _⟩ := any_some hdct
    refine Bool.eq_false_iff.mpr fun q => ?_
    have e : D = tp := Value.ref.inj (beq_iff_eq.mp q)
    subst e
    unfold clsIn at hcD
    split at hcD
    · rename_i c' d' cd' sl' ho
      have z := (X _ _ ho).symm.trans htp
      cases z
    · cases hcD
  ca := fun X I k => mpKinClass hga hgt hsub hdct ha hn htk hm X I k
end
end PySem.W
end

section
set_option Elab.async false
set_option linter.all false
set_option maxRecDepth 100000
set_option maxHeartbeats 8000000
/-! MiniPy: a handler's `return [..]`. -/
namespace MP
open PySem PySem.Spec PyProof.Rows L2

section
variable (G : Glo) (N : List Str) (sc : Scope)
def trHA (n : Str) (t : Ty) : Expr → Bool
  | .Call (.Name x _) [.Name y _, z] [] _ => nmB G sc x "isinstance" && decide (y = n) && trTy G sc t z && decide (t ≠ .lt)
  | _ => false
def trHE (n : Str) : HE → Expr → Bool
  | .str x, .Constant (.str y) _ _ => decide (x = y)
  | .fld k, .Attribute (.Name y _) f _ => decide (y = n) && decide (G.fi.lookup f = some k)
  | .isA [t], e => trHA G sc n t e
  | .isA [t, u], .BoolOp .And [a, b] _ => trHA G sc n t a && trHA G sc n u b
  | _, _ => false
def trHEs (n : Str) : List HE → List Expr → Bool
  | [], [] => true
  | h :: hs, e :: es => trHE G sc n h e && trHEs n hs es
  | _, _ => false
def trHd (d : Hd) : ExceptHandler → Bool
  | .ExceptHandler (some (.Name x _)) (some n) [.Return (some (.List items _)) _] _ =>
    nmG sc x && decide (G.gc.lookup x = some d.c) && G.exs.contains d.c && decide (N[d.i]? = some n) && decide (sc.names.lookup n = some .local) && !(n == ("__debug__" : Str)) && !(n == ("__classdict__" : Str)) && trHEs G sc n d.out items && decide (items.length ≤ 100)
  | _ => false
def trHds : List Hd → List ExceptHandler → Bool
  | [], [] => true
  | d :: ds, h :: hs => trHd G N sc d h && trHds ds hs
  | _, _ => false
end
section
variable {G : Glo} {N : List Str} {A : Nm} {T : Tab} {cal : Nat → List W → Hs → R W} {k : Nat} {X : Cx} {sc sc' : Scope} {wf : Nat}
/-- isinstance(e, c) of the caught error -/
theorem call_isX {a D : Addr} {d : Option Addr} {oe : Obj} {pn : List (Addr × Obj)} (C : ExcC X.K D) (hz : Zc (.ref D) d oe) (hf : ∃ vs, oe.data = .fields vs) {dd : Addr} {gs : List (Str × V)} (ed : d = some dd) : CallR (X.suite a ((a, oe) :: pn)) (.builtin "isinstance") (fun xs H Q => H dd = some (.xd gs) ∧ rIsE X.K D a xs H Q) := by
  intro pins s σ H xs us Q I r h
  obtain ⟨ea, c, cv, b, rfl, hcv, e, q⟩ := h
  cases r with
  | cons rx rr =>
    cases rr with
    | cons rt rr =>
      cases rr
      cases rx
      have ec := hcv _ rt
      subst ec
      obtain ⟨hget, _⟩ := I.pin (a, oe) (List.mem_append.mpr (.inl List.mem_cons_self))
      obtain ⟨vs, hv⟩ := hf
      have hx : ObjOk X.prog X.w H s.heap dd (.xd gs) := I.hok dd _ ea
      obtain ⟨mA, hns, hr⟩ := hx
      obtain ⟨od, ho, hl⟩ := lookIn_ns hns
      have J : PySem.W.InstAt s.heap a oe D (some od) := ⟨hget, hz.1, by unfold PySem.W.notCls; rw [hv] <;> rfl, by rw [hz.2, ed]; exact ho⟩
      exact PySem.W.kia_one (PySem.W.mpKitx C.hg C.hk C.hs C.hd C.ha C.hn C.ht C.hm) I.kIn J e (fun z => nomatch z) fun tk => ⟨.bl b, H, I.kept (t' := tk) fun _ _ z => z, rfl, q⟩
section
variable {a dd : Addr} {c : Nat} {oe : Obj} {pn : List (Addr × Obj)} {gs : List (Str × V)} {m : Mp} {H : Hp} {h : Hs} {σ : L2.St} {vs : List W} {n : Str} {i : Nat} {fs : List Nat}
theorem he_name (hn : N[i]? = some n) (hN : X.N = N) (hv : X.env.scope.names.lookup n = some .local) (h1 : (n == ("__debug__" : Str)) = false) (h2 : (n == ("__classdict__" : Str)) = false) {pos : Pos} : PE (X.suite a ((a, oe) :: pn)) (.Name n pos) (tVar i) :=
  pe_var (by rw [show (X.suite a ((a, oe) :: pn)).N = X.N from rfl, hN]; exact hn) (.inl hv) h1 h2
theorem he_isa (C : Cok G N A T cal k X sc) (ef : T.exf c = some fs) (hn : N[i]? = some n) (hv : X.env.scope.names.lookup n = some .local) (h1 : (n == ("__debug__" : Str)) = false) (h2 : (n == ("__classdict__" : Str)) = false) (hz : Zc (.ref (A.ca c)) (some dd) oe) (hf : ∃ vs, oe.data = .fields vs) (ed : H dd = some (.xd gs))
    (hs : σ[i]? = some (some (.ref a))) {t : Ty} {e : Expr} (ht : trHA G sc n t e = true) {b : Bool} (hb : isTy h T t (.exn c vs) = some b) {Q : VK} (q : Q (.bl b) H) : (∀ es', starEach (e :: es') X.env = (false, eval e X.env) :: starEach es' X.env) ∧ tE (X.suite a ((a, oe) :: pn)) e σ H Q := by
  unfold trHA at ht
  split at ht <;> first | (cases ht; done) | skip
  rename_i x p y p2 z p3
  simp only [Bool.and_eq_true, decide_eq_true_eq] at ht
  obtain ⟨⟨⟨t1, rfl⟩, t3⟩, t4⟩ := ht
  refine ⟨fun _ => rfl, ?_⟩
  have EX := C.fx.ex c fs ef
  obtain ⟨rfl, g1, g2, hm, hnn⟩ := nmB_gl C t1
  -- the class asked
  have key : ∃ (cv : V) (u : Value), PE (X.suite a ((a, oe) :: pn)) z (L2.tC cv) ∧ (∀ u', RelV cv u' → u' = u) ∧ PySem.W.kitOne X.K (.ref (A.ca c)) u = some b ∧ good z = true := by
    have bt : ∀ (nm : String) (bn : Str), nm ∈ ["bool", "int", "str", "list", "tuple", "dict", "ValueError"] → bootBuiltins bn = some (.type nm) → (∃ q p, z = .Name q p ∧ nmB G sc q bn = true) → b = decide (Value.type nm = .type "ValueError") → ∃ (cv : V) (u : Value), PE (X.suite a ((a, oe) :: pn)) z (L2.tC cv) ∧ (∀ u', RelV cv u' → u' = u) ∧ PySem.W.kitOne X.K (.ref (A.ca c)) u = some b ∧ good z = true := by
      intro nm bn hnm hbt ⟨q, p, ez, hq⟩ eb
      subst ez
      obtain ⟨rfl, k1, k2, k3, k4⟩ := nmB_gl C hq
      exact ⟨.ty nm, .type nm, pe_bltn (X := X.suite a ((a, oe) :: pn)) k1 k3 hbt rfl k4 k2, fun _ r => r, by rw [eb]; exact C.fx.exi c fs _ ef ⟨nm, rfl, hnm⟩, rfl⟩
    have fb : ∀ (nm : String) (bn : Str), nm ∈ ["bool", "int", "str", "list", "tuple", "dict", "ValueError"] → bootBuiltins bn = some (.type nm) → (∀ q p, z = .Name q p → nmB G sc q bn = true) → (∃ q p, z = .Name q p) → b = decide (Value.type nm = .type "ValueError") → ∃ (cv : V) (u : Value), PE (X.suite a ((a, oe) :: pn)) z (L2.tC cv) ∧ (∀ u', RelV cv u' → u' = u) ∧ PySem.W.kitOne X.K (.ref (A.ca c)) u = some b ∧ good z = true :=
      fun nm bn h1 h2 h3 ⟨q, p, h4⟩ h5 => bt nm bn h1 h2 ⟨q, p, h4, h3 q p h4⟩ h5
    cases t with
    | lt => exact absurd rfl t4
    | cls d =>
      cases z <;> simp only [trTy] at t3 <;> first | (cases t3; done) | skip
      rename_i y2 p4
      simp only [Bool.and_eq_true, decide_eq_true_eq] at t3
      obtain ⟨k1, k2⟩ := nmG_gl C t3.1
      have eb : b = T.sub c d := by
        have hb : some (T.sub c d) = some b := hb
        exact (Option.some.inj hb).symm
      exact ⟨.ref (A.ca d), .ref (A.ca d), pe_glob (X := X.suite a ((a, oe) :: pn)) k1 (C.fx.gc y2 d t3.2) rfl k2, fun _ r => r, by rw [eb]; exact C.fx.exj c fs d ef ⟨y2, t3.2⟩, rfl⟩
    | int =>
      cases z <;> simp only [trTy] at t3 <;> first | (cases t3; done) | skip
      refine fb "int" "int" (by decide) (by decide +kernel) (fun q p e => by cases e; exact t3) ⟨_, _, rfl⟩ ?_
      cases hb; decide
    | bool =>
      cases z <;> simp only [trTy] at t3 <;> first | (cases t3; done) | skip
      refine fb "bool" "bool" (by decide) (by decide +kernel) (fun q p e => by cases e; exact t3) ⟨_, _, rfl⟩ ?_
      cases hb; decide
    | str =>
      cases z <;> simp only [trTy] at t3 <;> first | (cases t3; done) | skip
      refine fb "str" "str" (by decide) (by decide +kernel) (fun q p e => by cases e; exact t3) ⟨_, _, rfl⟩ ?_
      cases hb; decide
    | list =>
      cases z <;> simp only [trTy] at t3 <;> first | (cases t3; done) | skip
      refine fb "list" "list" (by decide) (by decide +kernel) (fun q p e => by cases e; exact t3) ⟨_, _, rfl⟩ ?_
      cases hb; decide
    | tuple =>
      cases z <;> simp only [trTy] at t3 <;> first | (cases t3; done) | skip
      refine fb "tuple" "tuple" (by decide) (by decide +kernel) (fun q p e => by cases e; exact t3) ⟨_, _, rfl⟩ ?_
      cases hb; decide
    | dict =>
      cases z <;> simp only [trTy] at t3 <;> first | (cases t3; done) | skip
      refine fb "dict" "dict" (by decide) (by decide +kernel) (fun q p e => by cases e; exact t3) ⟨_, _, rfl⟩ ?_
      cases hb; decide
    | verr =>
      cases z <;> simp only [trTy] at t3 <;> first | (cases t3; done) | skip
      refine fb "ValueError" "ValueError" (by decide) (by decide +kernel) (fun q p e => by cases e; exact t3) ⟨_, _, rfl⟩ ?_
      cases hb; decide
  obtain ⟨cv, u, pz, hcv, hk, gz⟩ := key
  have bi : bootBuiltins "isinstance" = some (.builtin "isinstance") := by decide +kernel
  refine tE_of (X := X.suite a ((a, oe) :: pn)) (pe_callB (call_isX EX.xc hz hf (gs := gs) rfl) g1 hm bi (pa_cons (he_name hn C.hN hv h1 h2) (pa_cons pz pa_nil (star_cons gz [] _)) rfl) hnn g2 rfl (stars (by rw [List.all_cons, gz]; rfl) _ _)) ?_
  exact ⟨_, hs, ed, cv, u, b, rfl, hcv, hk, q⟩
theorem s_he (C : Cok G N A T cal k X sc) (ef : T.exf c = some fs) (hn : N[i]? = some n) (hv : X.env.scope.names.lookup n = some .local) (h1 : (n == ("__debug__" : Str)) = false) (h2 : (n == ("__classdict__" : Str)) = false) (hz : Zc (.ref (A.ca c)) (some dd) oe) (hf : ∃ vs, oe.data = .fields vs) (ed : H dd = some (.xd gs))
    (hs : σ[i]? = some (some (.ref a))) (rx : RelX X.K A T m H c vs gs) {it : HE} {e : Expr} (ht : trHE G sc n it e = true) {w : W} (hw : heV T c vs h it = some w) {Q : VK} (q : ∀ v, RelW X.K A m H w v → Q v H) : (∀ es', starEach (e :: es') X.env = (false, eval e X.env) :: starEach es' X.env) ∧ tE (X.suite a ((a, oe) :: pn)) e σ H Q := by
  have EX := C.fx.ex c fs ef
  unfold trHE at ht
  split at ht <;> first | (cases ht; done) | skip
  · rename_i x y j p
    have e1 : x = y := of_decide_eq_true ht
    subst e1
    cases hw
    exact ⟨fun _ => rfl, tE_of (X := X.suite a ((a, oe) :: pn)) pe_str (q _ rfl)⟩
  · rename_i kk y p f p2
    simp only [Bool.and_eq_true, decide_eq_true_eq] at ht
    obtain ⟨rfl, t2⟩ := ht
    refine ⟨fun _ => rfl, ?_⟩
    obtain ⟨fs2, e2, hl, hg⟩ := rx
    rw [ef] at e2; cases e2
    have hw : (T.exf c).bind (fun fs => (fs.zip vs).lookup kk) = some w := hw
    rw [ef, Option.bind_some] at hw
    have lk : ∀ (fs : List Nat) (vs : List W), fs.length = vs.length → (fs.zip vs).lookup kk = some w → ∃ j : Nat, fs[j]? = some kk ∧ vs[j]? = some w := by
      intro fs
      induction fs with
      | nil => intro vs _ h; cases h
      | cons f fs ih =>
        intro vs hl h
        cases vs with
        | nil => cases hl
        | cons v vs =>
          rw [List.zip_cons_cons, List.lookup_cons] at h
          by_cases hk : kk = f
          · subst hk
            rw [beq_self_eq_true] at h
            cases h
            exact ⟨0, rfl, rfl⟩
          · rw [beq_false_of_ne hk] at h
            obtain ⟨j, e1, e2⟩ := ih vs (by simpa using hl) h
            exact ⟨j + 1, by simpa using e1, by simpa using e2⟩
    obtain ⟨j, j1, j2⟩ := lk fs vs hl hw
    obtain ⟨v, lv, rv⟩ := hg j kk w j1 j2
    have ef2 : A.fn kk = f := C.fx.fi f kk t2
    subst ef2
    refine tE_of (X := X.suite a ((a, oe) :: pn)) (pe_xf EX.xf (EX.no kk (List.mem_of_getElem? j1)) hz hf (he_name hn C.hN hv h1 h2)) ?_
    exact ⟨_, hs, rfl, rfl, dd, gs, v, rfl, ed, lv, q v rv⟩
  · rename_i _ t
    have hw : ([t].mapM fun t => isTy h T t (.exn c vs)).map (fun bs => W.bl (bs.all id)) = some w := hw
    cases hb : isTy h T t (.exn c vs) with
    | none => simp [hb] at hw
    | some b =>
      simp [hb] at hw
      subst hw
      exact he_isa C ef hn hv h1 h2 hz hf ed hs ht hb (q _ rfl)
  · rename_i t u x y p
    simp only [Bool.and_eq_true] at ht
    have hw : ([t, u].mapM fun t => isTy h T t (.exn c vs)).map (fun bs => W.bl (bs.all id)) = some w := hw
    cases hb : isTy h T t (.exn c vs) with
    | none => simp [hb] at hw
    | some b =>
      cases hb2 : isTy h T u (.exn c vs) with
      | none => simp [hb, hb2] at hw
      | some b2 =>
        simp [hb, hb2] at hw
        subst hw
        refine ⟨fun _ => rfl, tE_of (X := X.suite a ((a, oe) :: pn)) (pe_and pe_w (pe_one pe_w)) ?_⟩
        refine (he_isa C ef hn hv h1 h2 hz hf ed hs ht.1 hb ?_).2
        refine ⟨b, rfl, ?_⟩
        cases b with
        | false => rw [if_neg Bool.false_ne_true]; exact q _ rfl
        | true => rw [if_pos rfl]; exact (he_isa C ef hn hv h1 h2 hz hf ed hs ht.2 hb2 (q _ rfl)).2
theorem s_hes (C : Cok G N A T cal k X sc) (ef : T.exf c = some fs) (hn : N[i]? = some n) (hv : X.env.scope.names.lookup n = some .local) (h1 : (n == ("__debug__" : Str)) = false) (h2 : (n == ("__classdict__" : Str)) = false) (hz : Zc (.ref (A.ca c)) (some dd) oe) (hf : ∃ vs, oe.data = .fields vs) (ed : H dd = some (.xd gs))
    (hs : σ[i]? = some (some (.ref a))) (rx : RelX X.K A T m H c vs gs) : ∀ {its : List HE} {es : List Expr}, trHEs G sc n its es = true → ∀ {ws : List W}, its.mapM (heV T c vs h) = some ws → ∀ {Q : List V → Hp → Prop}, (∀ us, RelWs X.K A m H ws us → us.length = es.length → Q us H) → tA (X.suite a ((a, oe) :: pn)) es σ H Q
  | [], [], _, ws, hw, Q, q => by
    cases hw
    exact tA_of (X := X.suite a ((a, oe) :: pn)) pa_nil (q [] rfl rfl)
  | it :: its, e :: es, ht, ws, hw, Q, q => by
    simp only [trHEs, Bool.and_eq_true] at ht
    cases e1 : heV T c vs h it with
    | none => simp [List.mapM_cons, e1] at hw
    | some w =>
      cases e2 : its.mapM (heV T c vs h) with
      | none => simp [List.mapM_cons, e1, e2] at hw
      | some ws' =>
        simp [List.mapM_cons, e1, e2] at hw
        subst hw
        have key := fun Q q => s_he (Q := Q) (pn := pn) C ef hn hv h1 h2 hz hf ed hs rx ht.1 e1 q
        refine tA_of (X := X.suite a ((a, oe) :: pn)) (pa_cons pe_w pa_w ?_) ((key _ fun v r1 => ?_).2)
        · exact (key (fun _ _ => True) fun _ _ => trivial).1 es
        · exact s_hes C ef hn hv h1 h2 hz hf ed hs rx ht.2 e2 fun us r2 hl => q (v :: us) (.cons r1 r2) (by rw [List.length_cons, List.length_cons, hl])
  | [], _ :: _, h, _, _, _, _ => by simp [trHEs] at h
  | _ :: _, [], h, _, _, _, _ => by simp [trHEs] at h
end
end
end MP
end

section
set_option Elab.async false
set_option linter.all false
set_option maxRecDepth 100000
set_option maxHeartbeats 8000000
/-! MiniPy: try. -/
namespace MP
open PySem PySem.Spec PyProof.Rows L2

section
variable {G : Glo} {N : List Str} {A : Nm} {T : Tab} {cal : Nat → List W → Hs → R W} {k : Nat} {X : Cx} {sc sc' : Scope} {wf : Nat}
theorem Cok.tr (C : Cok G N A T cal k X sc) (pn : List (Addr × Obj)) (xe : Value → Shared → Prop) : Cok G N A T cal k (X.tr pn xe) sc := ⟨C.calm, C.hN, C.nd, C.loc, C.fre, C.room, C.st, C.fx⟩
def hdT (X : Cx) (suite : List Stmt) : Addr → Value → Option Addr → TS := fun a cls dd D σ H => ∀ (oe : Obj) (pn : List (Addr × Obj)), Zc cls dd oe → (∃ vs, oe.data = .fields vs) → tSs (X.suite a ((a, oe) :: pn)) suite D σ H
def hdl (A : Nm) (X : Cx) : List Hd → List ExceptHandler → List (Value × Nat × (Addr → Value → Option Addr → TS))
  | d :: ds, .ExceptHandler _ _ suite _ :: hs => (.ref (A.ca d.c), d.i, hdT X suite) :: hdl A X ds hs
  | _, _ => []
theorem hdl_ok (C : Cok G N A T cal k X sc) : ∀ (ds : List Hd) (hs : List ExceptHandler), trHds G N sc ds hs = true → HdsN X hs (hdl A X ds hs)
  | [], [], _ => .nil
  | d :: ds, h :: hs, ht => by
    simp only [trHds, Bool.and_eq_true] at ht
    obtain ⟨t1, t2⟩ := ht
    unfold trHd at t1
    split at t1 <;> first | (cases t1; done) | skip
    rename_i x p n items p2 p3 p4
    simp only [Bool.and_eq_true, decide_eq_true_eq, Bool.not_eq_true'] at t1
    obtain ⟨⟨⟨⟨⟨⟨⟨⟨a1, a2⟩, a3⟩, a4⟩, a5⟩, a6⟩, a7⟩, a8⟩, a9⟩ := t1
    obtain ⟨g1, g2⟩ := nmG_gl C a1
    exact .cons ⟨g1, g2, .inl (C.fx.gc x d.c a2)⟩ (by rw [C.hN]; exact a4) (C.loc n _ a5 (by decide)) (fun a oe cls dd pn hz hf => ⟨fun pins s σ H D I q => q oe pn hz hf pins s I⟩) (hdl_ok C ds hs t2)
  | [], _ :: _, h => by simp [trHds] at h
  | _ :: _, [], h => by simp [trHds] at h
def tryR (T : Tab) (c : Nat) (vs : List W) (h1 : Hs) (hs : List Hd) : R Fl := match hs.find? fun d => T.sub c d.c with
      | some d => (match d.out.mapM (heV T c vs h1) with
        | some ws => .ok (.ret (.ref h1.length)) (h1 ++ [.lst ws])
        | none => .stuck)
      | none => .raise c vs h1
theorem try_w (C : Cok G N A T cal k X sc) {E : XK} {c : Nat} {vs : List W} {h1 : Hs} {D : Ends} {m m' : Mp} {H H' : Hp} {dd : Addr} {gs : List (Str × V)} (s : Stp m H m' H') (hr : HRel X.K A m' h1 H') (hx : H' dd = some (.xd gs)) (rx : RelX X.K A T m' H' c vs gs) {σ' : L2.St} (hl : σ'.length = N.length) :
    ∀ (ds : List Hd) (hs : List ExceptHandler), trHds G N sc ds hs = true → Out X.K A T (RelFl A X.K) m H (tryR T c vs h1 ds) (endQ D) E → wNamed X.K (fun c d _ H => E c d H) D (hdl A X ds hs) (.ref (A.ca c)) (some dd) σ' H'
  | [], [], _, o => by
    have o : Out X.K A T (RelFl A X.K) m H (.raise c vs h1) (endQ D) E := o
    exact o m' H' dd gs s hr hx rx
  | d :: ds, h :: hs, ht, o => by
    simp only [trHds, Bool.and_eq_true] at ht
    obtain ⟨t1, t2⟩ := ht
    unfold trHd at t1
    split at t1 <;> first | (cases t1; done) | skip
    rename_i x p n items p2 p3 p4
    simp only [Bool.and_eq_true, decide_eq_true_eq, Bool.not_eq_true'] at t1
    obtain ⟨⟨⟨⟨⟨⟨⟨⟨a1, a2⟩, a3⟩, a4⟩, a5⟩, a6⟩, a7⟩, a8⟩, a9⟩ := t1
    obtain ⟨fs, ef, _⟩ := id rx
    refine ⟨T.sub c d.c, C.fx.exm c fs d.c ef (by simpa using a3), fun hb a na oe pn hz hf => ?_, fun hb => ?_⟩
    · unfold tryR at o
      rw [List.find?_cons_of_pos (p := fun d : Hd => T.sub c d.c) hb] at o
      dsimp only at o
      split at o <;> first | exact (show False from o).elim | skip
      rename_i ws ew
      refine tSs_of (X := X.suite a ((a, oe) :: pn)) (pss_one (ps_ret (pe_lst pa_w))) ?_
      have lt : d.i < σ'.length := by rw [hl]; exact getE_lt a4
      refine s_hes C ef a4 (C.loc n _ a5 (by decide)) a6 a7 hz hf hx (List.getElem?_set_self lt) rx a8 ew fun us ru hlen => ⟨by rw [hlen, sizeLine_eq]; omega, fun q nq => ?_⟩
      have st := Stp.grown (m := m') (H := H') (a := q) (o := .lst us) nq
      exact o (m' ++ [q]) _ (.rt (.ref q)) (s.trans st) (hr.grown nq ⟨us, upd_same, ru.mono st⟩) ⟨q, grown_at hr, rfl⟩
    · refine try_w C s hr hx rx hl ds hs t2 ?_
      unfold tryR at o ⊢
      rw [List.find?_cons_of_neg (p := fun d : Hd => T.sub c d.c) (by rw [hb]; exact Bool.false_ne_true)] at o
      exact o
  | [], _ :: _, h, _ => by simp [trHds] at h
  | _ :: _, [], h, _ => by simp [trHds] at h
theorem s_try (C : Cok G N A T cal k X sc) (hst : X.stack = X.env :: X.outer) (hf : X.env.frame = some X.env.locals) {b : Sts} {ds : List Hd} {body : List Stmt} {h0 : ExceptHandler} {hs : List ExceptHandler} {pos : Pos} (ht : trHds G N sc ds (h0 :: hs) = true)
    (hb : ∀ (pn : List (Addr × Obj)) (xe : Value → Shared → Prop), PassesOwn (model X.prog X.w) X.A X.env xe → SSs A T (X.tr pn xe) body (evSs T cal wf b)) : SS A T X (.Try body (h0 :: hs) [] [] pos) (evS T cal wf (.try b ds)) := by
  intro E tk m H σ env h D hr he o
  rw [evS] at o
  refine tS_of (ps_try_named (tb := fun W D σ H => ∀ (pn : List (Addr × Obj)) (xe : Value → Shared → Prop), Takes (X.tr pn xe) W → PassesOwn (model X.prog X.w) X.A X.env xe → tSs (X.tr pn xe) body D σ H) (Wout := fun c d _ H => E c d H)
    hst hf (by rw [C.hN]; exact C.nd) tk (fun W pn xe tk' po => ⟨fun pins s σ H D I q => q pn xe tk' po pins s I⟩) (hdl_ok C ds (h0 :: hs) ht)) ?_
  intro pn xe tkW po
  refine hb pn xe po (fun c d H => ∀ σ' : L2.St, σ'.length = N.length → wNamed X.K (fun c d _ H => E c d H) D (hdl A X ds (h0 :: hs)) c d σ' H) (fun u s' ⟨a, B, sI, pins, σ', H', cls, d, e, I, nb, up, sky, na, os, ag, w⟩ => tkW u s' ⟨a, B, sI, pins, σ', H', cls, d, e, I, nb, up, sky, na, os, ag, w σ' (by rw [I.len]; exact congrArg List.length C.hN)⟩) m H σ env h D hr he ?_
  cases er : evSs T cal wf b env h with
  | stuck => rw [er] at o; exact (show False from o).elim
  | ok fl h1 => rw [er] at o; exact o
  | raise c vs h1 =>
    rw [er] at o
    exact fun m' H' dd gs s hr' hx rx σ' hl => try_w C s hr' hx rx hl ds (h0 :: hs) ht o
end
end MP
end

section
set_option Elab.async false
set_option linter.all false
set_option maxRecDepth 100000
set_option maxHeartbeats 8000000
/-! MiniPy: further parallel assignments; stores of comprehensions. -/
namespace MP
open PySem PySem.Spec PyProof.Rows L2

section
variable {G : Glo} {N : List Str} {A : Nm} {T : Tab} {cal : Nat → List W → Hs → R W} {k : Nat} {X : Cx} {sc sc' : Scope} {wf : Nat}
theorem swLen {env : PySem.Env} {ts vs : List Expr} {pt pt2 : Pos} {kt k2 : Nat} (h : 4 ≤ ts.length) : swappedStores [.Tuple ts kt pt] (.Tuple vs k2 pt2) env = pure none := by
  unfold swappedStores
  dsimp only
  have : (!(ts.length == 2 || ts.length == 3) || vs.length != ts.length || env.blockKind != .function) = true := by
    have h2 : (ts.length == 2) = false := by simpa using (by omega : ts.length ≠ 2)
    have h3 : (ts.length == 3) = false := by simpa using (by omega : ts.length ≠ 3)
    rw [h2, h3]; rfl
  exact if_pos this
theorem swFold {env : PySem.Env} {ts vs : List Expr} {pt pt2 : Pos} {kt k2 : Nat} (h : vs.all (foldedForSure 8) = true) : swappedStores [.Tuple ts kt pt] (.Tuple vs k2 pt2) env = pure none := by
  unfold swappedStores
  dsimp only
  by_cases h1 : (!(ts.length == 2 || ts.length == 3) || vs.length != ts.length || env.blockKind != .function) = true
  · exact if_pos h1
  · refine Eq.trans (if_neg h1) ?_
    split
    · rfl
    · split <;> first | rfl | exact if_pos h
theorem sw3 {env : PySem.Env} {x y z : Str} {px py pz pt pt2 : Pos} {a b c : Expr} {kt k2 : Nat} (hk : env.scope.kind = .function) (hx : env.scope.names.lookup x = some .local) (hy : env.scope.names.lookup y = some .local) (hz : env.scope.names.lookup z = some .local) (hxy : x ≠ y) (hxz : x ≠ z) (hyz : y ≠ z) (g : [a, b, c].all good = true) (h : swOk [px.line, py.line, pz.line] [a, b, c] = true) :
    swappedStores [.Tuple [.Name x px, .Name y py, .Name z pz] kt pt] (.Tuple [a, b, c] k2 pt2) env = pure (some [x, y, z]) := by
  unfold swOk at h
  simp only [Bool.and_eq_true, Bool.not_eq_true'] at h
  obtain ⟨⟨h1, h2⟩, h3⟩ := h
  simp only [List.all_cons, List.headD_cons, Bool.and_eq_true] at h1
  have hl : (py.line == px.line) = true := h1.2.1
  have hl2 : (pz.line == px.line) = true := h1.2.2.1
  have hb : (env.blockKind != .function) = false := by
    unfold Env.blockKind
    rw [hk]; rfl
  have ns := no_star g
  unfold swappedStores
  simp only [List.length_cons, List.length_nil, hb]
  rw [if_neg (by decide)]
  refine Eq.trans (if_neg fun hh => Bool.noConfusion ((hh.symm.trans ns : true = false))) ?_
  have e1 : (env.kindOf x == some NameKind.local) = true := by show (env.scope.names.lookup x == some NameKind.local) = true; rw [hx]; rfl
  have e2 : (env.kindOf y == some NameKind.local) = true := by show (env.scope.names.lookup y == some NameKind.local) = true; rw [hy]; rfl
  have e3 : (env.kindOf z == some NameKind.local) = true := by show (env.scope.names.lookup z == some NameKind.local) = true; rw [hz]; rfl
  have hn : (List.filterMap (fun
    | Expr.Name id pos => if env.kindOf id == some .local && pos.line == px.line then some id else none
    | _ => none) [Expr.Name x px, Expr.Name y py, Expr.Name z pz]) = [x, y, z] := by
    simp only [List.filterMap_cons, List.filterMap_nil, e1, e2, e3, hl, hl2, Bool.true_and, beq_self_eq_true, if_true]
  have key : ∀ names : List Str, names = [x, y, z] → (if (names.length != 3 || names.eraseDups.length != names.length) = true then pure none else if [a, b, c].all (foldedForSure 8) = true then pure none else if [a, b, c].all (constantsAlone 8) = true then (do unsupported "assign.tuple-of-constant-expressions:order-of-the-stores"; pure (some names)) else pure (some names) : Sem (Option (List Str))) = pure (some [x, y, z]) := by
    intro names e
    subst e
    have ed : ([x, y, z] : List Str).eraseDups = [x, y, z] := by
      have t1 : (y == x) = false := by simpa using fun h => hxy h.symm
      have t2 : (z == x) = false := by simpa using fun h => hxz h.symm
      have t3 : (z == y) = false := by simpa using fun h => hyz h.symm
      simp [List.eraseDups_cons, t1, t2, t3]
    rw [if_neg (by rw [ed]; simp), if_neg (by rw [h2]; decide), if_neg (by rw [h3]; decide)]
  exact key _ hn
/-- the stores go from the left, as ever -/
theorem s_asgTP (C : Cok G N A T cal k X sc) {is : List Nat} {es : Exs} {ts vs : List Expr} {n n2 : Nat} {p p2 pos : Pos} (ht : trT N sc (tgOf is) (.Tuple ts n p) = true) (hz : is.length ≤ 100) (hsw : swappedStores [.Tuple ts n p] (.Tuple vs n2 p2) X.env = pure none) (al : AllSE A T cal X es vs) :
    SS A T X (.Assign [.Tuple ts n p] (.Tuple vs n2 p2) pos) (evS T cal wf (.asgT is es)) := by
  intro E tk m H σ env h D hr he o
  refine tS_of (ps_asg pe_w pg_w (no_swap (e := .Tuple vs n2 p2) rfl (some (.Tuple ts n p)) pos.line X.env) hsw (by rw [not_star ht]; rfl)) ?_
  rw [evS] at o
  refine s_tup (s_all al) _ tk m H σ env h _ hr he ?_
  rw [evE]
  cases er : evEs T cal es env h with
  | stuck => rw [er] at o; exact o
  | raise c us h1 => rw [er] at o; exact o
  | ok ws h1 =>
    rw [er] at o
    rw [bind_ok] at o ⊢
    cases ea : setAll is ws env with
    | none => rw [ea] at o; exact (show False from o).elim
    | some e1 =>
      rw [ea] at o
      have hl := setAll_len is ws env e1 ea
      rw [if_pos (by rw [hl]; unfold SZ; omega)]
      intro m1 H1 v s1 hr1 r1
      exact s_tg C (tgOf is) (.Tuple ts n p) ht m1 H1 σ env h1 (.tup ws) v e1 _ hr1 (he.mono s1) r1 (by rw [asg_setAll]; exact ea) fun σ' he' _ => fl_next o s1 hr1 he'
/-- three plain local names -/
theorem s_asgT3 (C : Cok G N A T cal k X sc) {i j l : Nat} {es : Exs} {x y z : Str} {px py pz : Pos} {a b c : Expr} {n n2 : Nat} {p p2 pos : Pos} (hi : N[i]? = some x) (hj : N[j]? = some y) (hl : N[l]? = some z) (hij : i ≠ j) (hil : i ≠ l) (hjl : j ≠ l) (hx : X.env.scope.names.lookup x = some .local) (hy : X.env.scope.names.lookup y = some .local) (hz : X.env.scope.names.lookup z = some .local)
    (hs : swOk [px.line, py.line, pz.line] [a, b, c] = true) (al : AllSE A T cal X es [a, b, c]) : SS A T X (.Assign [.Tuple [.Name x px, .Name y py, .Name z pz] n p] (.Tuple [a, b, c] n2 p2) pos) (evS T cal wf (.asgT [i, j, l] es)) := by
  intro E tk m H σ env h D hr he o pins s I
  have hxy : x ≠ y := fun e => hij (nodup_get C.nd (e ▸ hi) hj)
  have hxz : x ≠ z := fun e => hil (nodup_get C.nd (e ▸ hi) hl)
  have hyz : y ≠ z := fun e => hjl (nodup_get C.nd (e ▸ hj) hl)
  refine (ps_par3 C.calm (by rw [C.hN]; exact C.nd) (by rw [C.hN]; exact hi) (by rw [C.hN]; exact hj) (by rw [C.hN]; exact hl) hij hil hjl hx hy hz pa_w (sw3 I.ok.kind hx hy hz hxy hxz hyz al.good hs)).run pins s σ H D I ?_
  rw [evS] at o
  refine s_all al _ tk m H σ env h _ hr he (Out.bind o fun ws h1 m1 H1 vs e1 s1 hr1 r1 o1 => ?_)
  cases ea : setAll [i, j, l] ws env with
  | none => rw [ea] at o1; exact (show False from o1).elim
  | some e2 =>
    rw [ea] at o1
    have hl := setAll_len _ _ _ _ ea
    match ws, hl with
    | [w1, w2, w3], _ =>
      obtain ⟨v1, r', rfl, r1, v2, r'', rfl, r2, v3, r''', rfl, r3, r4⟩ := r1
      obtain rfl : r''' = [] := r4
      simp only [setAll] at ea
      split at ea <;> first | (cases ea; done) | skip
      split at ea <;> first | (cases ea; done) | skip
      split at ea <;> first | (cases ea; done) | skip
      cases ea
      exact ⟨v1, v2, v3, rfl, fl_next o1 .rfl' hr1 (envR_set (envR_set (envR_set (he.mono s1) r1) r2) r3)⟩
/-- an assignment whose value does not swap -/
theorem s_asgS (C : Cok G N A T cal k X sc) {t : Tg} {e : Ex} {tg x : Expr} {pos : Pos} (nc : swapsWith x (some tg) pos.line X.env = pure false) (np : noPar tg x = true) (ht : trT N sc t tg = true) (se : SE A T X x (evE T cal e)) : SS A T X (.Assign [tg] x pos) (evS T cal wf (.asg t e)) := by
  intro E tk m H σ env h D hr he o
  refine tS_of (ps_asg pe_w pg_w nc (no_par np _) (by rw [not_star ht]; rfl)) ?_
  rw [evS] at o
  refine se _ tk m H σ env h _ hr he (Out.bind o fun w h1 m1 H1 v e1 s1 hr1 r1 o1 => ?_)
  cases ea : asgTg h1 t w env with
  | none => rw [ea] at o1; exact (show False from o1).elim
  | some e2 =>
    rw [ea] at o1
    exact s_tg C t tg ht m1 H1 σ env h1 w v e2 _ hr1 (he.mono s1) r1 ea fun σ' he' _ => fl_next o1 .rfl' hr1 he'
/-- the value is no comprehension, or its target is no plain local name -/
def sw0 (sc : Scope) (tg x : Expr) : Bool := notComp x || (match tg with | .Name y _ => decide (sc.names.lookup y = some .cell) | _ => true)
theorem sw0_no (C : Cok G N A T cal k X sc) {tg x : Expr} (h : sw0 sc tg x = true) (l : Nat) : swapsWith x (some tg) l X.env = pure false := by
  unfold sw0 at h
  rw [Bool.or_eq_true] at h
  rcases h with h | h
  · exact no_swap h _ _ _
  · cases tg with
    | Name y p =>
      have e := C.loc y _ (of_decide_eq_true h) (by decide)
      have ek : (X.env.kindOf y == some NameKind.local) = false := by show (X.env.scope.names.lookup y == some NameKind.local) = false; rw [e]; rfl
      cases x <;> first | rfl | (unfold swapsWith; simp only [ek, Bool.and_false, Bool.false_and])
    | _ => cases x <;> rfl
/-- name = [..] on one line -/
def sw1 (sc sc' : Scope) (y : Str) (py q : Pos) : Bool := decide (sc.names.lookup y = some .local) && (py.line == q.line) && !(sc'.names.any fun (n, k) => n == y && (k == .local || k == .cell))
theorem sw1_yes {env : PySem.Env} {y : Str} {py q : Pos} {el : Expr} {gs : List Comprehension} {l : Nat} (hk : env.scope.kind = .function) (hy : env.scope.names.lookup y = some .local) (h : sw1 sc sc' y py q = true) : swapsWith (.ListComp el gs sc' q) (some (.Name y py)) l env = pure true := by
  unfold sw1 at h
  simp only [Bool.and_eq_true, decide_eq_true_eq, Bool.not_eq_true'] at h
  obtain ⟨⟨h1, h2⟩, h3⟩ := h
  have e1 : (env.kindOf y == some NameKind.local) = true := by show (env.scope.names.lookup y == some NameKind.local) = true; rw [hy]; rfl
  have e2 : (env.blockKind == .function) = true := by unfold Env.blockKind; rw [hk]; rfl
  unfold swapsWith
  dsimp only
  have e4 : (py.line == (Expr.ListComp el gs sc' q).pos.line) = true := h2
  rw [e2, e1, e4, h3]
  rfl
theorem s_setLc1 (C : Cok G N A T cal k X sc) {i : Nat} {y : Str} {py q pos : Pos} {e : Ex} {t : Tg} {s : Sr} {c : Cnd} {ws0 : List Nat} {el tg it : Expr} {ifs : List Expr} (hy : N[i]? = some y) (h1 : sw1 sc sc' y py q = true)
    (gi : good it = true) (hb : trB N sc sc' ws0 = true) (ht : trT N sc' t tg = true) (hs : SR A T X tg it (evSr T cal s))
    (hc : ∀ X', BX X sc' X' → SB A T X' ifs (evC T cal c)) (hE : ∀ X', BX X sc' X' → SE A T X' el (evE T cal e)) : SS A T X (.Assign [.Name y py] (.ListComp el [⟨tg, it, ifs, 0⟩] sc' q) pos) (evS T cal wf (.asg (.name i) (.lst (.comp e t s c ws0)))) := by
  intro E tk m H σ env h D hr he o pins st I
  have hyl : X.env.scope.names.lookup y = some .local := by
    unfold sw1 at h1
    simp only [Bool.and_eq_true, decide_eq_true_eq] at h1
    exact C.loc y _ h1.1.1 (by decide)
  exact s_setLc C hy hyl (sw1_yes I.ok.kind hyl h1) gi hb ht hs hc hE E tk m H σ env h D hr he o pins st I
end
end MP
end

section
set_option Elab.async false
set_option linter.all false
set_option maxRecDepth 100000
set_option maxHeartbeats 16000000
/-! MiniPy: the statements' tie; each tied statement runs as its image. -/
namespace MP
open PySem PySem.Spec PyProof.Rows L2

section
variable (G : Glo) (N : List Str) (sc : Scope)
def asAsg : Stmt → Option (Expr × Expr × Pos) | .Assign [t] x pos => some (t, x, pos) | _ => none
def asExprS : Stmt → Option (Expr × Pos) | .Expr x pos => some (x, pos) | _ => none
def asRet : Stmt → Option (Expr × Pos) | .Return (some x) pos => some (x, pos) | _ => none
def asRetN : Stmt → Option Pos | .Return none pos => some pos | _ => none
def asPass : Stmt → Option Pos | .Pass pos => some pos | _ => none
def asBrk : Stmt → Option Pos | .Break pos => some pos | _ => none
def asCont : Stmt → Option Pos | .Continue pos => some pos | _ => none
def asRaise : Stmt → Option (Str × Pos × Expr × List Expr × Pos × Pos) | .Raise (some (.Call (.Name x p) (e :: es) [] q)) none pos => some (x, p, e, es, q, pos) | _ => none
def asIfS : Stmt → Option (Expr × List Stmt × List Stmt × Pos) | .If t x y pos => some (t, x, y, pos) | _ => none
def asFor : Stmt → Option (Expr × Expr × List Stmt × Pos) | .For t it b [] pos => some (t, it, b, pos) | _ => none
def asWhile : Stmt → Option (Expr × List Stmt × Pos) | .While t b [] pos => some (t, b, pos) | _ => none
def asTry : Stmt → Option (List Stmt × ExceptHandler × List ExceptHandler × Pos) | .Try b (h :: hs) [] [] pos => some (b, h, hs, pos) | _ => none
theorem asAsg_eq {e : Stmt} {r} (h : asAsg e = some r) : e = .Assign [r.1] r.2.1 r.2.2 := by
  unfold asAsg at h
  split at h <;> first | (cases h; rfl) | cases h
theorem asExprS_eq {e : Stmt} {r} (h : asExprS e = some r) : e = .Expr r.1 r.2 := by
  unfold asExprS at h
  split at h <;> first | (cases h; rfl) | cases h
theorem asRet_eq {e : Stmt} {r} (h : asRet e = some r) : e = .Return (some r.1) r.2 := by
  unfold asRet at h
  split at h <;> first | (cases h; rfl) | cases h
theorem asRetN_eq {e : Stmt} {r} (h : asRetN e = some r) : e = .Return none r := by
  unfold asRetN at h
  split at h <;> first | (cases h; rfl) | cases h
theorem asPass_eq {e : Stmt} {r} (h : asPass e = some r) : e = .Pass r := by
  unfold asPass at h
  split at h <;> first | (cases h; rfl) | cases h
theorem asBrk_eq {e : Stmt} {r} (h : asBrk e = some r) : e = .Break r := by
  unfold asBrk at h
  split at h <;> first | (cases h; rfl) | cases h
theorem asCont_eq {e : Stmt} {r} (h : asCont e = some r) : e = .Continue r := by
  unfold asCont at h
  split at h <;> first | (cases h; rfl) | cases h
theorem asRaise_eq {e : Stmt} {r} (h : asRaise e = some r) : e = .Raise (some (.Call (.Name r.1 r.2.1) (r.2.2.1 :: r.2.2.2.1) [] r.2.2.2.2.1)) none r.2.2.2.2.2 := by
  unfold asRaise at h
  split at h <;> first | (cases h; rfl) | cases h
theorem asIfS_eq {e : Stmt} {r} (h : asIfS e = some r) : e = .If r.1 r.2.1 r.2.2.1 r.2.2.2 := by
  unfold asIfS at h
  split at h <;> first | (cases h; rfl) | cases h
theorem asFor_eq {e : Stmt} {r} (h : asFor e = some r) : e = .For r.1 r.2.1 r.2.2.1 [] r.2.2.2 := by
  unfold asFor at h
  split at h <;> first | (cases h; rfl) | cases h
theorem asWhile_eq {e : Stmt} {r} (h : asWhile e = some r) : e = .While r.1 r.2.1 [] r.2.2 := by
  unfold asWhile at h
  split at h <;> first | (cases h; rfl) | cases h
theorem asTry_eq {e : Stmt} {r} (h : asTry e = some r) : e = .Try r.1 (r.2.1 :: r.2.2.1) [] [] r.2.2.2 := by
  unfold asTry at h
  split at h <;> first | (cases h; rfl) | cases h
/-- a tuple of names at once: how its stores go -/
def trPar : List Nat → List Expr → List Expr → Bool
  | [i, j], [.Name x px, .Name y py], [a, b] => (decide (N[i]? = some x) && decide (N[j]? = some y) && decide (i ≠ j) && decide (sc.names.lookup x = some .local) && decide (sc.names.lookup y = some .local) && swOk [px.line, py.line] [a, b]) || decide (sc.names.lookup x = some .cell) || decide (sc.names.lookup y = some .cell) || [a, b].all (foldedForSure 8)
  | [i, j, l], [.Name x px, .Name y py, .Name z pz], [a, b, c] => (decide (N[i]? = some x) && decide (N[j]? = some y) && decide (N[l]? = some z) && decide (i ≠ j) && decide (i ≠ l) && decide (j ≠ l) && decide (sc.names.lookup x = some .local) && decide (sc.names.lookup y = some .local) && decide (sc.names.lookup z = some .local) && swOk [px.line, py.line, pz.line] [a, b, c]) || decide (sc.names.lookup x = some .cell) || decide (sc.names.lookup y = some .cell) || decide (sc.names.lookup z = some .cell) || [a, b, c].all (foldedForSure 8)
  | is, ts, _ => decide (4 ≤ ts.length) && decide (is.length ≤ 100)
/-- name = [.. for ..] on one line -/
def trLc (tg x : Expr) (i : Nat) (e : Ex) (t : Tg) (s : Sr) (c : Cnd) (ws : List Nat) : Bool := match tg, asLC x with
  | .Name y py, some (el, tg', it, ifs, sc', q) => decide (N[i]? = some y) && sw1 sc sc' y py q && trSr G N sc s it && trB N sc sc' ws && trT N sc' t tg' && trC G N sc' c ifs && trE G N sc' e el
  | _, _ => false
def trAsg : Tg → Ex → Expr → Expr → Bool
  | .name i, .lst (.comp e t s c ws), tg, x => trLc G N sc tg x i e t s c ws || (sw0 sc tg x && noPar tg x && trT N sc (.name i) tg && trE G N sc (.lst (.comp e t s c ws)) x)
  | t, e, tg, x => sw0 sc tg x && noPar tg x && trT N sc t tg && trE G N sc e x
mutual
def trS : St → Stmt → Bool
  | .asg t e, st => match asAsg st with | some (tg, x, _) => trAsg G N sc t e tg x | none => false
  | .asgT is es, st => match asAsg st with | some (.Tuple ts _ _, .Tuple vs _ _, _) => trT N sc (tgOf is) (.Tuple ts 0 ⟨0, 0, 0, 0⟩) && trPar N sc is ts vs && trEs G N sc es vs | _ => false
  | .fldT is fs es, st => match asAsg st with | some (.Tuple ts _ _, .Tuple vs _ _, _) => trFs G N sc is fs ts && decide (is.length ≤ 3) && decide (is.length ≠ 0) && trEs G N sc es vs | _ => false
  | .fldSet o f e, st => match asAsg st with | some (.Attribute x y _, v, _) => decide (G.fi.lookup y = some f) && trE G N sc o x && trE G N sc e v | _ => false
  | .idxSet o i e, st => match asAsg st with | some (.Subscript x y _, v, _) => trE G N sc o x && trE G N sc i y && trE G N sc e v | _ => false
  | .expr e, st => match asExprS st with | some (x, _) => notComp x && trE G N sc e x | none => false
  | .ret e, st => match asRet st with | some (x, _) => trE G N sc e x | none => false
  | .retN, st => (asRetN st).isSome
  | .pass, st => (asPass st).isSome
  | .brk, st => (asBrk st).isSome
  | .cont, st => (asCont st).isSome
  | .raise c es, st => match asRaise st with | some (x, _, e, xs, _, _) => nmG sc x && decide (G.gc.lookup x = some c) && trEs G N sc es (e :: xs) | none => false
  | .ite c a b, st => match asIfS st with | some (t, x, y, _) => notIte t && trE G N sc c t && trSs a x && trSs b y | none => false
  | .for t s b, st => match asFor st with | some (tg, it, x, _) => trT N sc t tg && trSr G N sc s it && trSs b x | none => false
  | .while c b, st => match asWhile st with | some (t, x, _) => notIte t && trE G N sc c t && trSs b x | none => false
  | .try b hs, st => match asTry st with | some (x, h, hh, _) => trHds G N sc hs (h :: hh) && trSs b x | none => false
def trSs : Sts → List Stmt → Bool
  | .nil, xs => xs.isEmpty
  | .cons s r, xs => match xs with | x :: xs => trS s x && trSs r xs | [] => false
end
end
section
variable {G : Glo} {N : List Str} {A : Nm} {T : Tab} {cal : Nat → List W → Hs → R W} {k : Nat} {X : Cx} {sc sc' : Scope} {wf : Nat}
/-- the context of a statement -/
structure Sok (X : Cx) : Prop where
  hs : X.stack = X.env :: X.outer
  hf : X.env.frame = some X.env.locals
  pas : PassesOwn (model X.prog X.w) X.A X.env X.xe
abbrev IHS (G : Glo) (N : List Str) (A : Nm) (T : Tab) (cal : Nat → List W → Hs → R W) (k wf : Nat) (il : St) : Prop := ∀ (X : Cx) (sc : Scope), Cok G N A T cal k X sc → Sok X → ∀ st : Stmt, trS G N sc il st = true → SS A T X st (evS T cal wf il)
abbrev IHSs (G : Glo) (N : List Str) (A : Nm) (T : Tab) (cal : Nat → List W → Hs → R W) (k wf : Nat) (il : Sts) : Prop := ∀ (X : Cx) (sc : Scope), Cok G N A T cal k X sc → Sok X → ∀ st : List Stmt, trSs G N sc il st = true → SSs A T X st (evSs T cal wf il)
theorem trT_pos {t : Tg} {es : List Expr} {n n' : Nat} {p p' : Pos} (h : trT N sc t (.Tuple es n p) = true) : trT N sc t (.Tuple es n' p') = true := by
  cases t with
  | name i => simp [trT, trTg] at h
  | nil => cases es <;> simp [trT] at h ⊢
  | cons a b => cases es <;> simp [trT] at h ⊢; exact h
theorem tgOf_len : ∀ {is : List Nat} {es : List Expr}, trTs N sc (tgOf is) es = true → is.length = es.length
  | [], [], _ => rfl
  | [], _ :: _, h => by simp [tgOf, trTs] at h
  | _ :: _, [], h => by simp [tgOf, trTs] at h
  | i :: is, e :: es, h => by
    simp only [tgOf, trTs, Bool.and_eq_true] at h
    rw [List.length_cons, List.length_cons, tgOf_len h.2]
theorem arm_plain (C : Cok G N A T cal k X sc) {t : Tg} {e : Ex} {tg x : Expr} {pos : Pos} (h : (sw0 sc tg x && noPar tg x && trT N sc t tg && trE G N sc e x) = true) : SS A T X (.Assign [tg] x pos) (evS T cal wf (.asg t e)) := by
  simp only [Bool.and_eq_true] at h
  obtain ⟨⟨⟨h1, h2⟩, h3⟩, h4⟩ := h
  exact s_asgS C (sw0_no C h1 _) h2 h3 (okE e X sc C x h4).2.1
theorem arm_asg (C : Cok G N A T cal k X sc) {t : Tg} {e : Ex} {tg x : Expr} {pos : Pos} (h : trAsg G N sc t e tg x = true) : SS A T X (.Assign [tg] x pos) (evS T cal wf (.asg t e)) := by
  unfold trAsg at h
  split at h
  · rename_i i e t s c ws
    rw [Bool.or_eq_true] at h
    rcases h with h | h
    · unfold trLc at h
      split at h <;> first | (cases h; done) | skip
      rename_i y py el tg' it ifs sc' q hx
      obtain rfl := asLC_eq hx
      simp only [Bool.and_eq_true, decide_eq_true_eq] at h
      obtain ⟨⟨⟨⟨⟨⟨h1, h2⟩, h3⟩, h4⟩, h5⟩, h6⟩, h7⟩ := h
      have qq := okSr s X sc C tg' it h3
      exact s_setLc1 C h1 h2 qq.1 h4 h5 qq.2 (fun X' b => okC c X' sc' (cok_blk C b) ifs h6) (fun X' b => (okE e X' sc' (cok_blk C b) el h7).2.1)
    · exact arm_plain C h
  · exact arm_plain C h
theorem arm_par (C : Cok G N A T cal k X sc) {is : List Nat} {es : Exs} {ts vs : List Expr} {n n2 : Nat} {p p2 pos : Pos} (ht : trT N sc (tgOf is) (.Tuple ts n p) = true) (hp : trPar N sc is ts vs = true) (al : AllSE A T cal X es vs) : SS A T X (.Assign [.Tuple ts n p] (.Tuple vs n2 p2) pos) (evS T cal wf (.asgT is es)) := by
  have cl : ∀ {x : Str}, sc.names.lookup x = some .cell → (X.env.scope.names.lookup x == some NameKind.local) = false := fun {x} h => by rw [C.loc x _ h (by decide)]; rfl
  unfold trPar at hp
  split at hp
  · rename_i i j x px y py a b
    simp only [Bool.or_eq_true, Bool.and_eq_true, decide_eq_true_eq] at hp
    rcases hp with ((⟨⟨⟨⟨⟨h1, h2⟩, h3⟩, h4⟩, h5⟩, h6⟩ | h) | h) | h
    · exact s_asgT2 C h1 h2 h3 (C.loc x _ h4 (by decide)) (C.loc y _ h5 (by decide)) h6 al
    · exact s_asgTP C ht (by simp) (swN (x := x) (px := px) (by simp) (cl h)) al
    · exact s_asgTP C ht (by simp) (swN (x := y) (px := py) (by simp) (cl h)) al
    · exact s_asgTP C ht (by simp) (swFold h) al
  · rename_i i j l x px y py z pz a b c
    simp only [Bool.or_eq_true, Bool.and_eq_true, decide_eq_true_eq] at hp
    rcases hp with (((⟨⟨⟨⟨⟨⟨⟨⟨⟨h1, h2⟩, h3⟩, h4⟩, h5⟩, h6⟩, h7⟩, h8⟩, h9⟩, h10⟩ | h) | h) | h) | h
    · exact s_asgT3 C h1 h2 h3 h4 h5 h6 (C.loc x _ h7 (by decide)) (C.loc y _ h8 (by decide)) (C.loc z _ h9 (by decide)) h10 al
    · exact s_asgTP C ht (by simp) (swN (x := x) (px := px) (by simp) (cl h)) al
    · exact s_asgTP C ht (by simp) (swN (x := y) (px := py) (by simp) (cl h)) al
    · exact s_asgTP C ht (by simp) (swN (x := z) (px := pz) (by simp) (cl h)) al
    · exact s_asgTP C ht (by simp) (swFold h) al
  · simp only [Bool.and_eq_true, decide_eq_true_eq] at hp
    exact s_asgTP C ht hp.2 (swLen hp.1) al
theorem Sok.tr (S : Sok X) {pn : List (Addr × Obj)} {xe : Value → Shared → Prop} (h : PassesOwn (model X.prog X.w) X.A X.env xe) : Sok (X.tr pn xe) := ⟨S.hs, S.hf, h⟩
theorem arm_S_asg (t : Tg) (e : Ex) : IHS G N A T cal k wf (.asg t e) := fun X sc C S st h => by
  simp only [trS] at h
  split at h <;> first | (cases h; done) | skip
  rename_i tg x pos he
  obtain rfl := asAsg_eq he
  exact arm_asg C h
theorem arm_S_asgT (is : List Nat) (es : Exs) : IHS G N A T cal k wf (.asgT is es) := fun X sc C S st h => by
  simp only [trS] at h
  split at h <;> first | (cases h; done) | skip
  rename_i ts n p vs n2 p2 pos he
  obtain rfl := asAsg_eq he
  simp only [Bool.and_eq_true] at h
  exact arm_par C (trT_pos h.1.1) h.1.2 (okEs es X sc C vs h.2)
theorem arm_S_fldT (is fs : List Nat) (es : Exs) : IHS G N A T cal k wf (.fldT is fs es) := fun X sc C S st h => by
  simp only [trS] at h
  split at h <;> first | (cases h; done) | skip
  rename_i ts n p vs n2 p2 pos he
  obtain rfl := asAsg_eq he
  simp only [Bool.and_eq_true, decide_eq_true_eq] at h
  exact s_fldT C h.1.1.1 h.1.1.2 h.1.2 (okEs es X sc C vs h.2)
theorem arm_S_fldSet (o : Ex) (f : Nat) (e : Ex) : IHS G N A T cal k wf (.fldSet o f e) := fun X sc C S st h => by
  simp only [trS] at h
  split at h <;> first | (cases h; done) | skip
  rename_i x y p v pos he
  obtain rfl := asAsg_eq he
  simp only [Bool.and_eq_true, decide_eq_true_eq] at h
  exact s_fldSet C h.1.1 (okE o X sc C x h.1.2).2.1 (okE e X sc C v h.2).2.1
theorem arm_S_idxSet (o i e : Ex) : IHS G N A T cal k wf (.idxSet o i e) := fun X sc C S st h => by
  simp only [trS] at h
  split at h <;> first | (cases h; done) | skip
  rename_i x y p v pos he
  obtain rfl := asAsg_eq he
  simp only [Bool.and_eq_true, decide_eq_true_eq] at h
  exact s_idxSet C (okE o X sc C x h.1.1).2.1 (okE i X sc C y h.1.2).2.1 (okE e X sc C v h.2).2.1
theorem arm_S_expr (e : Ex) : IHS G N A T cal k wf (.expr e) := fun X sc C S st h => by
  simp only [trS] at h
  split at h <;> first | (cases h; done) | skip
  rename_i x pos he
  obtain rfl := asExprS_eq he
  simp only [Bool.and_eq_true] at h
  exact s_expr h.1 (okE e X sc C x h.2).2.1
theorem arm_S_ret (e : Ex) : IHS G N A T cal k wf (.ret e) := fun X sc C S st h => by
  simp only [trS] at h
  split at h <;> first | (cases h; done) | skip
  rename_i x pos he
  obtain rfl := asRet_eq he
  exact s_ret (okE e X sc C x h).2.1
theorem arm_S_retN : IHS G N A T cal k wf .retN := fun X sc C S st h => by
  simp only [trS] at h
  obtain ⟨q, he⟩ := Option.isSome_iff_exists.mp h
  obtain rfl := asRetN_eq he
  exact s_retN
theorem arm_S_pass : IHS G N A T cal k wf .pass := fun X sc C S st h => by
  simp only [trS] at h
  obtain ⟨q, he⟩ := Option.isSome_iff_exists.mp h
  obtain rfl := asPass_eq he
  exact s_pass
theorem arm_S_brk : IHS G N A T cal k wf .brk := fun X sc C S st h => by
  simp only [trS] at h
  obtain ⟨q, he⟩ := Option.isSome_iff_exists.mp h
  obtain rfl := asBrk_eq he
  exact s_brk
theorem arm_S_cont : IHS G N A T cal k wf .cont := fun X sc C S st h => by
  simp only [trS] at h
  obtain ⟨q, he⟩ := Option.isSome_iff_exists.mp h
  obtain rfl := asCont_eq he
  exact s_cont
theorem arm_S_raise (c : Nat) (es : Exs) : IHS G N A T cal k wf (.raise c es) := fun X sc C S st h => by
  simp only [trS] at h
  split at h <;> first | (cases h; done) | skip
  rename_i x p e xs q pos he
  obtain rfl := asRaise_eq he
  simp only [Bool.and_eq_true, decide_eq_true_eq] at h
  exact s_raise C h.1.1 h.1.2 (okEs es X sc C (e :: xs) h.2)
theorem arm_S_ite (c : Ex) (a b : Sts) (ia : IHSs G N A T cal k wf a) (ib : IHSs G N A T cal k wf b) : IHS G N A T cal k wf (.ite c a b) := fun X sc C S st h => by
  simp only [trS] at h
  split at h <;> first | (cases h; done) | skip
  rename_i t x y pos he
  obtain rfl := asIfS_eq he
  simp only [Bool.and_eq_true] at h
  exact s_if ((okE c X sc C t h.1.1.2).2.2 h.1.1.1) (ia X sc C S x h.1.2) (ib X sc C S y h.2)
theorem arm_S_for (t : Tg) (s : Sr) (b : Sts) (ib : IHSs G N A T cal k wf b) : IHS G N A T cal k wf (.for t s b) := fun X sc C S st h => by
  simp only [trS] at h
  split at h <;> first | (cases h; done) | skip
  rename_i tg it x pos he
  obtain rfl := asFor_eq he
  simp only [Bool.and_eq_true] at h
  have q := okSr s X sc C tg it h.1.2
  exact s_for C S.pas q.1 h.1.1 q.2 (ib X sc C S x h.2)
theorem arm_S_while (c : Ex) (b : Sts) (ib : IHSs G N A T cal k wf b) : IHS G N A T cal k wf (.while c b) := fun X sc C S st h => by
  simp only [trS] at h
  split at h <;> first | (cases h; done) | skip
  rename_i t x pos he
  obtain rfl := asWhile_eq he
  simp only [Bool.and_eq_true] at h
  exact s_while S.pas ((okE c X sc C t h.1.2).2.2 h.1.1) (ib X sc C S x h.2)
theorem arm_S_try (b : Sts) (hs : List Hd) (ib : IHSs G N A T cal k wf b) : IHS G N A T cal k wf (.try b hs) := fun X sc C S st h => by
  simp only [trS] at h
  split at h <;> first | (cases h; done) | skip
  rename_i x h0 hh pos he
  obtain rfl := asTry_eq he
  simp only [Bool.and_eq_true] at h
  exact s_try C S.hs S.hf h.1 fun pn xe po => ib _ sc (C.tr pn xe) (S.tr po) x h.2
theorem arm_Ss_nil : IHSs G N A T cal k wf .nil := fun X sc C S st h => by
  simp only [trSs] at h
  obtain rfl := isEmpty_eq h
  exact s_nil
theorem arm_Ss_cons (s : St) (r : Sts) (i1 : IHS G N A T cal k wf s) (i2 : IHSs G N A T cal k wf r) : IHSs G N A T cal k wf (.cons s r) := fun X sc C S st h => by
  simp only [trSs] at h
  split at h
  · rename_i x xs
    simp only [Bool.and_eq_true] at h
    exact s_cons (i1 X sc C S x h.1) (i2 X sc C S xs h.2)
  · cases h
mutual
theorem okS : ∀ il : St, IHS G N A T cal k wf il
  | .asg t e => arm_S_asg t e
  | .asgT is es => arm_S_asgT is es
  | .fldT is fs es => arm_S_fldT is fs es
  | .fldSet o f e => arm_S_fldSet o f e
  | .idxSet o i e => arm_S_idxSet o i e
  | .expr e => arm_S_expr e
  | .ret e => arm_S_ret e
  | .retN => arm_S_retN
  | .pass => arm_S_pass
  | .brk => arm_S_brk
  | .cont => arm_S_cont
  | .raise c es => arm_S_raise c es
  | .ite c a b => arm_S_ite c a b (okSs a) (okSs b)
  | .for t s b => arm_S_for t s b (okSs b)
  | .while c b => arm_S_while c b (okSs b)
  | .try b hs => arm_S_try b hs (okSs b)
theorem okSs : ∀ il : Sts, IHSs G N A T cal k wf il
  | .nil => arm_Ss_nil
  | .cons s r => arm_Ss_cons s r (okS s) (okSs r)
end
end
end MP
end

section
set_option Elab.async false
set_option linter.all false
set_option maxRecDepth 100000
set_option maxHeartbeats 8000000
/-! MiniPy: defs run as the interpreter runs them. -/
namespace MP
open PySem PySem.Spec PyProof.Rows L2

section
variable {K : PySem.W.Frag} {A : Nm} {m m1 : Mp} {H H1 : Hp} {h h1 : Hs}
/-! ### what a call leaves over is let go -/
theorem getE_some {α : Type} {l : List α} {i : Nat} (h : i < l.length) : ∃ x, l[i]? = some x := ⟨l[i], List.getElem?_eq_getElem h⟩
theorem take_get {α : Type} {l : List α} {n i : Nat} (h : i < n) : (l.take n)[i]? = l[i]? := by
  rw [List.getElem?_take]; simp [h]
mutual
theorem rel_cut {n : Nat} (hm : ∀ (r : Nat) a, r < n → m1[r]? = some a → m[r]? = some a) : ∀ (w : W) (v : V), w.bel n = true → RelW K A m1 H w v → RelW K A m H w v
  | .non, _, _, h => h
  | .bl _, _, _, h => h
  | .int _, _, _, h => h
  | .str _, _, _, h => h
  | .tup ws, _, b, h => by
    obtain ⟨a, vs, e, q, r⟩ := (show ∃ a vs, _ = V.ref a ∧ SqT K H a vs ∧ RelWs K A m1 H ws vs from h)
    exact ⟨a, vs, e, q, rels_cut hm ws vs (by rw [W.bel] at b; exact b) r⟩
  | .ref r, _, b, h => by
    obtain ⟨a, e, q⟩ := (show ∃ a, m1[r]? = some a ∧ _ = V.ref a from h)
    exact ⟨a, hm r a (by rw [W.bel] at b; exact of_decide_eq_true b) e, q⟩
  | .fn _, _, _, h => h
  | .cls _, _, _, h => h
  | .exn _ _, _, _, h => h
theorem rels_cut {n : Nat} (hm : ∀ (r : Nat) a, r < n → m1[r]? = some a → m[r]? = some a) : ∀ (ws : List W) (vs : List V), W.bels n ws = true → RelWs K A m1 H ws vs → RelWs K A m H ws vs
  | [], _, _, h => h
  | w :: ws, _, b, h => by
    obtain ⟨v, r, e, q, z⟩ := (show ∃ v r, _ = v :: r ∧ RelW K A m1 H w v ∧ RelWs K A m1 H ws r from h)
    rw [W.bels, Bool.and_eq_true] at b
    exact ⟨v, r, e, rel_cut hm w v b.1 q, rels_cut hm ws r b.2 z⟩
end
theorem relKV_cut {n : Nat} (hm : ∀ (r : Nat) a, r < n → m1[r]? = some a → m[r]? = some a) : ∀ (ps : List (W × W)) (ks : List (Key × V)), (ps.all fun p => p.1.bel n && p.2.bel n) = true → RelKV K A m1 H ps ks → RelKV K A m H ps ks
  | [], _, _, h => h
  | _ :: _, _, b, ⟨k, v, r, e, q, z, t⟩ => by
    rw [List.all_cons, Bool.and_eq_true, Bool.and_eq_true] at b
    exact ⟨k, v, r, e, q, rel_cut hm _ _ b.1.2 z, relKV_cut hm _ _ b.2 t⟩
theorem relFs_cut {n : Nat} (hm : ∀ (r : Nat) a, r < n → m1[r]? = some a → m[r]? = some a) : ∀ (ps : List (Nat × W)) (ks : List (Str × V)), (ps.all fun p => p.2.bel n) = true → RelFs K A m1 H ps ks → RelFs K A m H ps ks
  | [], _, _, h => h
  | _ :: _, _, b, ⟨v, r, e, z, t⟩ => by
    rw [List.all_cons, Bool.and_eq_true] at b
    exact ⟨v, r, e, rel_cut hm _ _ b.1 z, relFs_cut hm _ _ b.2 t⟩
theorem cell_cut {n : Nat} (hm : ∀ (r : Nat) a, r < n → m1[r]? = some a → m[r]? = some a) {a : Addr} {c : Cell} (b : c.bel n = true) (k : CellOk K A m1 H a c) : CellOk K A m H a c := by
  cases c with
  | lst ws => obtain ⟨vs, q, r⟩ := k; exact ⟨vs, q, rels_cut hm _ _ b r⟩
  | frz ws => obtain ⟨o, vs, q, r⟩ := k; exact ⟨o, vs, q, rels_cut hm _ _ b r⟩
  | dct ws => obtain ⟨vs, q, r⟩ := k; exact ⟨vs, q, relKV_cut hm _ _ b r⟩
  | fdc ws => obtain ⟨o, vs, q, r⟩ := k; exact ⟨o, vs, q, relKV_cut hm _ _ b r⟩
  | ins c fs => obtain ⟨dx, vs, q, r⟩ := k; exact ⟨dx, vs, q, relFs_cut hm _ _ b r⟩
/-- the heap at a call's end, cut if nothing names what is let go -/
theorem cut_ok (hr : HRel K A m h H) (s : Stp m H m1 H1) (hr1 : HRel K A m1 h1 H1) (ws : List W) : ∃ m', Stp m H m' H1 ∧ HRel K A m' (cutH h.length ws h1) H1 ∧ ∀ w v, w ∈ ws → RelW K A m1 H1 w v → RelW K A m' H1 w v := by
  unfold cutH
  by_cases h2 : h1.length ≤ h.length
  · rw [if_pos h2]; exact ⟨m1, s, hr1, fun _ _ _ r => r⟩
  · rw [if_neg h2]
    by_cases h3 : (W.bels h.length ws && Closed h.length (h1.take h.length)) = true
    · rw [if_pos h3]
      rw [Bool.and_eq_true] at h3
      have hm : ∀ (r : Nat) a, r < h.length → m1[r]? = some a → m[r]? = some a := fun r a lt e => by
        obtain ⟨b, eb⟩ := getE_some (l := m) (i := r) (by rw [hr.len]; exact lt)
        have := s.pre r b eb
        rw [e] at this; cases this
        exact eb
      refine ⟨m, ⟨fun _ _ e => e, s.fr, s.tp, fun _ z => .inl z, s.fz⟩, ⟨?_, hr.nd, fun r c a e1 e2 => ?_⟩, fun w v hw r => ?_⟩
      · rw [List.length_take, hr.len]; omega
      · have lt : r < h.length := by rw [← hr.len]; exact getE_lt e2
        have e1' := e1
        rw [take_get lt] at e1
        have ck := hr1.cell r c a e1 (s.pre r a e2)
        have hb : c.bel h.length = true := List.all_eq_true.mp h3.2 c (List.mem_of_getElem? e1')
        exact cell_cut hm hb ck
      · have hb : w.bel h.length = true := by
          have : ∀ (us : List W), w ∈ us → W.bels h.length us = true → w.bel h.length = true := by
            intro us
            induction us with
            | nil => intro z; cases z
            | cons u us ih =>
              intro z b
              rw [W.bels, Bool.and_eq_true] at b
              rcases List.mem_cons.mp z with z | z
              · rw [z]; exact b.1
              · exact ih z b.2
          exact this ws hw h3.1
        exact rel_cut hm w v hb r
    · rw [if_neg h3]; exact ⟨m1, s, hr1, fun _ _ _ r => r⟩
theorem relX_cut {T : Tab} {m' : Mp} {c : Nat} {vs : List W} {gs : List (Str × V)} (hw : ∀ w v, w ∈ vs → RelW K A m1 H1 w v → RelW K A m' H1 w v) (r : RelX K A T m1 H1 c vs gs) : RelX K A T m' H1 c vs gs := by
  obtain ⟨fs, ef, hl, hg⟩ := r
  refine ⟨fs, ef, hl, fun k f w e1 e2 => ?_⟩
  obtain ⟨v, lv, rv⟩ := hg k f w e1 e2
  exact ⟨v, lv, hw w v (List.mem_of_getElem? e2) rv⟩
theorem fin_out {T : Tab} {r : R Fl} {Q : VK} {E : XK} (hr : HRel K A m h H) (o : OutW K A T m H (fin h.length r) Q E) : Out K A T (RelFl A K) m H r (endQ { nx := fun _ H' => Q .non H', rt := Q }) E := by
  cases r with
  | stuck => exact o
  | raise c vs h1 =>
    intro m1 H1 d gs s1 hr1 hx rx
    obtain ⟨m', s', hr', hw⟩ := cut_ok hr s1 hr1 vs
    exact o m' H1 d gs s' hr' hx (relX_cut hw rx)
  | ok fl h1 =>
    intro m1 H1 b s1 hr1 rb
    cases fl with
    | next e =>
      cases b with
      | nx σ =>
        obtain ⟨m', s', hr', _⟩ := cut_ok hr s1 hr1 []
        exact o m' H1 .non s' hr' rfl
      | _ => exact (show False from rb).elim
    | ret w =>
      cases b with
      | rt v =>
        obtain ⟨m', s', hr', hw⟩ := cut_ok hr s1 hr1 [w]
        exact o m' H1 v s' hr' (hw w v (List.mem_cons_self ..) rb)
      | _ => exact (show False from rb).elim
    | brk e => exact (show False from o).elim
    | cont e => exact (show False from o).elim
end

section
variable {P : Program} {w : World} {K : PySem.W.Frag} {mg : Str → Option Value} {base : Heap} {G : Glo} {A : Nm} {p : Pg}
/-- a def's text is tied to its image -/
structure DefOk (K : PySem.W.Frag) (G : Glo) (A : Nm) (p : Pg) (f : Nat) (ps : List Str) (fd : FuncData) : Prop where
  kp : PySem.W.keepIn K (.ref (A.fa f)) = true
  bp : ∀ us : List Value, us.length = ps.length → ∀ s : Shared, K.In s.heap → BindsTo s fd ⟨us, []⟩ (ps.zip us)
  bk : ∀ n ks q, (f, n, ks, q) ∈ G.kwp → ∀ us ws : List Value, us.length = n → ws.length = ks.length →
    ∃ xs, q.mapM (fun i => (us ++ ws)[i]?) = some xs ∧ xs.length = ps.length ∧ ∀ s : Shared, K.In s.heap → BindsTo s fd ⟨us, ks.zip ws⟩ (ps.zip xs)
  bd : ∀ n ds, (f, n, ds) ∈ G.dfp → n + ds.length = ps.length ∧ ∃ its, Vals (ds.map V.int) its ∧ ∀ us : List Value, us.length = n → ∀ s : Shared, K.In s.heap → BindsTo s fd ⟨us, []⟩ (ps.zip (us ++ its))
  tie : ∃ x qual params body scope N d dvs kws, FunD K x qual params body scope dvs kws (A.fa f) fd ∧ FnScope N ps scope ∧ p.fns[f]? = some d ∧ d.np = ps.length ∧ d.ns = N.length ∧ trSs G N scope d.body body = true
theorem env_start {K : PySem.W.Frag} {m : Mp} {H : Hp} {N : List Str} {ws : List W} {vs : List V} (r : RelWs K A m H ws vs) : EnvR K A m H (start N.length ws) (L2.start N vs) := by
  have hl := r.length
  refine ⟨by unfold start L2.start; simp [hl], fun i u e => ?_⟩
  unfold start at e
  unfold L2.start
  by_cases hi : i < ws.length
  · rw [List.getElem?_append_left (by rw [List.length_map]; exact hi), List.getElem?_map] at e
    cases e1 : ws[i]? with
    | none => rw [e1] at e; cases e
    | some w0 =>
      rw [e1] at e
      cases e
      obtain ⟨v, e2, r2⟩ := r.get e1
      exact ⟨v, by rw [List.getElem?_append_left (by rw [List.length_map, ← hl]; exact hi), List.getElem?_map, e2]; rfl, r2⟩
  · rw [List.getElem?_append_right (by rw [List.length_map]; omega)] at e
    rw [List.getElem?_replicate] at e
    split at e <;> cases e
theorem def_ok {cal : Nat → List W → Hs → R W} {k : Nat} (F : Fx P w K mg base G A p.T cal k) {f : Nat} {ps : List Str} {fd : FuncData} (D : DefOk K G A p f ps fd) : FnOk P w K mg base (L2.CX P w) (k + 2) (A.fa f) fd ps
    (spF K A p.T (fun f ws h => match p.fns[f]? with | some d => if ws.length = d.np then fin h.length (evSs p.T cal p.wf d.body (start d.ns ws) h) else .stuck | none => .stuck) f ps.length) := by
  obtain ⟨x, qual, params, body, scope, N, d, dvs, kws, FD, S, hd, hnp, hns, ht⟩ := D.tie
  refine FD.ok S (fun vs H Q E h => h.1) fun cdv A' outer s H vs Q E hroom hsp => ?_
  obtain ⟨hl, m, h, ws, hr, rw', o⟩ := hsp
  have hlw : ws.length = d.np := by rw [rw'.length, hl, hnp]
  dsimp only at o
  rw [hd] at o
  dsimp only at o
  rw [if_pos hlw, hns] at o
  have nf : ∀ x, scope.names.lookup x ≠ some .free := fun x e => by
    have : ∀ (l : List (Str × NameKind)), l.lookup x = some .free → ∃ y ∈ l, y.2 = .free := by
      intro l
      induction l with
      | nil => intro e; cases e
      | cons q l ih =>
        intro e
        obtain ⟨y, kd⟩ := q
        rw [List.lookup_cons] at e
        cases hx : (x == y) with
        | true => rw [hx] at e; cases e; exact ⟨_, List.mem_cons_self .., rfl⟩
        | false => rw [hx] at e; obtain ⟨z, hz, ez⟩ := ih e; exact ⟨z, List.mem_cons_of_mem _ hz, ez⟩
    obtain ⟨y, hy, ey⟩ := this _ e
    exact S.nofree y hy ey
  let X := cxOf (L2.CX P w) P w K mg base N qual scope (A.fa f) cdv A' outer s H E
  have hst : ∀ x, kL scope x = true → Loc X.env.scope x ∧ (X.fn x = true ∨ X.env.scope.names.lookup x = some .local) := by
    intro x hx
    refine ⟨?_, .inl rfl⟩
    unfold kL at hx
    cases e : scope.names.lookup x with
    | none => rw [e] at hx; cases hx
    | some kd =>
      rw [e] at hx
      cases kd <;> first | exact .inl e | exact .inr e | cases hx
  have C : Cok G N A p.T cal k X scope := ⟨rfl, rfl, S.nd, fun x kd e _ => e, fun x e => absurd e (nf x), hroom, hst, F⟩
  have Sk : Sok X := ⟨rfl, rfl, passes_of (X := X) (K := fun e s'' => L2.CX P w outer H s E e s'') rfl⟩
  have tk : Takes X (fun c d _ H => E c d H) := takes_of (X := X) rfl rfl rfl rfl
  refine ⟨tSs X body, pss_w, okSs (wf := p.wf) d.body X scope C Sk body ht E tk m H _ _ h _ hr (env_start rw') ?_⟩
  exact fin_out hr o
/-- every def of the text, at any depth -/
theorem fx_all (F0 : Fx0 P w K mg base G A p.T) (D : ∀ f, f < G.par.length → ∃ ps fd, G.par[f]? = some ps ∧ DefOk K G A p f ps fd) : ∀ n, Fx P w K mg base G A p.T (callN p n) (2 * n + 1)
  | 0 => ⟨F0, Nat.le_refl _, fun f hf => by
      obtain ⟨ps, fd, e, d⟩ := D f hf
      exact ⟨ps, fd, e, ⟨⟨d.kp, d.bp, d.bk, d.bd⟩, ⟨fun vs H Q E h => h.1, fun A' outer s H args us vs Q E hr e0 hb r hsp => by
        obtain ⟨_, m, h, ws, _, _, o⟩ := hsp
        exact (show False from o).elim⟩⟩⟩, fun _ _ _ _ _ _ => rfl⟩
  | n + 1 => ⟨F0, by omega, fun f hf => by
      obtain ⟨ps, fd, e, d⟩ := D f hf
      exact ⟨ps, fd, e, ⟨⟨d.kp, d.bp, d.bk, d.bd⟩, def_ok (fx_all F0 D n) d⟩⟩, fun f ps ws h e hl => by
      have hf : f < G.par.length := getE_lt e
      obtain ⟨ps', fd, e', d⟩ := D f hf
      rw [e] at e'; cases e'
      obtain ⟨x, qual, params, body, scope, N, dd, dvs, kws, FD, S, hd, hnp, hns, ht⟩ := d.tie
      rw [callN, hd]
      exact if_neg (by rw [hnp]; exact hl)⟩
end
end MP
end

section
set_option Elab.async false
set_option linter.all false
set_option maxRecDepth 100000
set_option maxHeartbeats 8000000
/-! MiniPy: an own ==, from what the written part says of the class. -/
namespace PySem
namespace W
open Sem (wp)
open PySem PySem.Spec PySem.Calls PyProof.Rows Builtin
section
variable {prog : Program} {w : World} {A : Around} {E : Value → Shared → Prop} {s : Shared} {K : Frag} {x y C f : Addr} {ox : Obj} {od : Option Obj}
theorem mpIfBoundB {M : Model} {B : String} {name : Str} {id : String} {args : List Value} {Q : Option Value → Shared → Prop} (S : Slot B name id) (X : K.In s.heap) (I : InstAt s.heap x ox C od) (hs : findIn K (.ref C) name = some (some (.builtin id)))
    (h : wpAny M A (call (.builtin id) (.ref x :: args)) (fun v => Q (some v)) E s) : wpAny M A (callSpecialIfBound? (.ref x) name args) Q E s := by
  simp only [callSpecialIfBound?, bindSpecialIfBound?]
  refine wpAny_holding (wpAny_bind (wpAny_bind (wpAny_bind (I.type.here ((looks_findIn X hs).here ?_)))))
  simp only [S.bind]
  refine wpAny_bind (wpAny_askSetting (wpAny_ite ?_))
  have fin : wpAny M A (call (.builtin id) ([.ref x] ++ args) >>= fun v => pure (some v)) Q E s := wpAny_bind (wpAny_mono h (fun v s' h' => wpAny_pure h') fun _ _ h' => h')
  split
  · repeat (first | exact fin | wp_step)
  · repeat (first | exact fin | wp_step)
theorem mpRich {tb : Value} {op : CmpOp} {b : Value} {Q : Value → Shared → Prop} (hu : A.units < cLine) (X : K.In s.heap) (I : InstAt s.heap x ox C od) (hb : Looks (model prog w) s.heap (typeOf b) tb) (hn : notFirst K C tb = true)
    (one : wpAny (model prog w) A (tryCompare (.ref x) (cmpInfo op).2.1 b) (fun r s' => ∃ v, r = some v ∧ Q v s') E s) : wpAny (model prog w) A (richCompare op (.ref x) b) Q E s := by
  unfold richCompare
  simp only [oneThing_ref]
  refine wpAny_holding (wpAny_bind (wpAny_cRoomFor hu ?_))
  refine wpAny_bind (I.type.here (wpAny_bind (hb.here ?_)))
  split
  · rename_i q
    have e : subIn K tb (.ref C) = some false := by
      rcases Bool.or_eq_true_iff.mp hn with e | e
      · rw [beq_iff_eq.mp e] at q; simp at q
      · exact beq_iff_eq.mp e
    refine wpAny_bind ((looks_subIn X e).here ?_)
    simp only [Bool.false_eq_true, if_false]
    refine wpAny_bind (wpAny_mono one (fun r s' z => ?_) fun _ _ e => e)
    obtain ⟨v, rfl, hq⟩ := z
    exact wpAny_pure hq
  · refine wpAny_bind (wpAny_pure ?_)
    simp only [Bool.false_eq_true, if_false]
    refine wpAny_bind (wpAny_mono one (fun r s' z => ?_) fun _ _ e => e)
    obtain ⟨v, rfl, hq⟩ := z
    exact wpAny_pure hq
theorem mpEq {tb : Value} {b : Value} {Q : Value → Shared → Prop} (hu : A.units < cLine) (X : K.In s.heap) (I : InstAt s.heap x ox C od) (hb : Looks (model prog w) s.heap (typeOf b) tb) (hn : notFirst K C tb = true)
    (hs : findIn K (.ref C) "__eq__" = some (some (.ref f))) (hf : isFn K (.ref f) = true) (h : wpAny (model prog w) A (call (.ref f) [.ref x, b]) (fun v s' => ∃ r, v = .bool r ∧ Q (.bool r) s') E s) : wpAny (model prog w) A (compareOp .Eq (.ref x) b) Q E s := by
  unfold compareOp
  refine mpRich (op := .Eq) hu X I hb hn ?_
  unfold tryCompare
  refine wpAny_bind (ifBound_K X I hs hf (wpAny_mono h (fun v s' hv => ?_) fun _ _ e => e))
  obtain ⟨r, rfl, hq⟩ := hv
  exact wpAny_pure ⟨_, rfl, hq⟩
theorem mpNe {tb : Value} {b : Value} {Q : Value → Shared → Prop} (hu : A.units + 1 < cLine) (X : K.In s.heap) (I : InstAt s.heap x ox C od) (hb : Looks (model prog w) s.heap (typeOf b) tb) (hn : notFirst K C tb = true)
    (hs : findIn K (.ref C) "__eq__" = some (some (.ref f))) (hf : isFn K (.ref f) = true) (hne : findIn K (.ref C) "__ne__" = some (some (.builtin "object.__ne__"))) (hm : mroIn K C (.type "object") = some true)
    (h : wpAny (model prog w) A.in1 (call (.ref f) [.ref x, b]) (fun v s' => ∃ r, v = .bool r ∧ Q (.bool (!r)) s') E s) : wpAny (model prog w) A (compareOp .NotEq (.ref x) b) Q E s := by
  have sub : Looks (model prog w) s.heap (isInstance (.ref x) (.type "object")) true := I.type.andThen (looks_mroIn X hm)
  unfold compareOp
  refine mpRich (op := .NotEq) (Nat.lt_of_succ_lt hu) X I hb hn ?_
  unfold tryCompare
  refine wpAny_bind (mpIfBoundB F.cmp_object.ne X I hne (wpAny_call (codeAny_call_builtin F.cmp_object.ne.plain F.cmpEntry_ne ?_)))
  refine @check_slot (model prog w) _ _ s "object.__ne__" "object" "__ne__" (.ref x) [b] [] _ F.cmpKind_ne F.cmpSplit_ne sub (F.cmpArgs_ne _ _) ?_
  unfold Builtin.«object.__ne__»
  repeat (first
    | with_reducible refine wpAny_cRoomFor hu ?_
    | (refine wpAny_bind (m := callSpecialIfBound? (.ref x) (Str.ofString "__eq__") [b])
        (ifBound_K X I hs hf (wpAny_mono h (fun r s' hr => by
          obtain ⟨b, rfl, hq⟩ := hr
          repeat (first | exact ⟨_, rfl, hq⟩ | exact hq | exact wpAny_pure hq | exact wpAny_truthy_bool hq | (refine wpAny_bind (m := truthy (.bool _)) (wpAny_truthy_bool ?_)) | wp_step)) fun _ _ e => e)))
    | wp_step)
end
end W
end PySem
end

section
set_option Elab.async false
set_option linter.all false
set_option maxRecDepth 100000
set_option maxHeartbeats 8000000
/-! MiniPy: an exception's __init__ keeps its promise. -/
namespace MP
open PySem PySem.Spec PyProof.Rows L2

section
variable {G : Glo} {A : Nm} {T : Tab}
/-- self.f = p, .. for the fields in the order of the parameters -/
def trX (G : Glo) (N : List Str) (sc : Scope) : List Nat → Nat → List Stmt → Bool
  | [], _, [] => true
  | f :: fs, j, .Assign [.Attribute (.Name s _) y _] (.Name z _) _ :: r => nmV N sc s 0 && nmV N sc z j && decide (G.fi.lookup y = some f) && trX G N sc fs (j + 1) r
  | _, _, _ => false
theorem trX_cons {N : List Str} {sc : Scope} {f j : Nat} {fs : List Nat} {body : List Stmt} (h : trX G N sc (f :: fs) j body = true) : ∃ s p y p2 z p3 p4 r, body = .Assign [.Attribute (.Name s p) y p2] (.Name z p3) p4 :: r ∧ nmV N sc s 0 = true ∧ nmV N sc z j = true ∧ G.fi.lookup y = some f ∧ trX G N sc fs (j + 1) r = true := by
  unfold trX at h
  split at h
  · rename_i he; cases he
  · rename_i he
    cases he
    simp only [Bool.and_eq_true, decide_eq_true_eq] at h
    exact ⟨_, _, _, _, _, _, _, _, rfl, h.1.1.1, h.1.1.2, h.1.2, h.2⟩
  · cases h
theorem nmV_pe {X : Cx} {N : List Str} {sc : Scope} (hN : X.N = N) (hsc : X.env.scope = sc) (nf : ∀ x, sc.names.lookup x ≠ some .free) {x : Str} {i : Nat} {pos : Pos} (h : nmV N sc x i = true) : PE X (.Name x pos) (tVar i) := by
  unfold nmV at h
  simp only [Bool.and_eq_true, decide_eq_true_eq, Bool.not_eq_true'] at h
  obtain ⟨⟨⟨h1, h2⟩, h3⟩, h4⟩ := h
  refine pe_var (by rw [hN]; exact h1) ?_ h3 h4
  unfold kV at h2
  cases e : sc.names.lookup x with
  | none => rw [e] at h2; cases h2
  | some kd =>
    rw [e] at h2
    cases kd with
    | «local» => exact .inl (by rw [hsc]; exact e)
    | cell => exact .inr (.inl (by rw [hsc]; exact e))
    | free => exact absurd e (nf x)
    | _ => cases h2
theorem upd_swap {H : Hp} {a d : Addr} {o1 o2 o3 : HO} (h : d ≠ a) : upd (upd (upd H d o1) a o2) d o3 = upd (upd H d o3) a o2 := by
  funext b
  by_cases hb : b = d
  · subst hb; rw [upd_same, upd_ne h, upd_same]
  · rw [upd_ne hb]
    by_cases ha : b = a
    · subst ha; rw [upd_same, upd_same]
    · rw [upd_ne ha, upd_ne ha, upd_ne hb, upd_ne hb]
theorem no_free {sc : Scope} (h : ∀ y ∈ sc.names, y.2 ≠ .free) (x : Str) : sc.names.lookup x ≠ some .free := fun e => by
  have : ∀ (l : List (Str × NameKind)), l.lookup x = some .free → ∃ y ∈ l, y.2 = .free := by
    intro l
    induction l with
    | nil => intro e; cases e
    | cons q l ih =>
      intro e
      obtain ⟨y, kd⟩ := q
      rw [List.lookup_cons] at e
      cases hx : (x == y) with
      | true => rw [hx] at e; cases e; exact ⟨_, List.mem_cons_self .., rfl⟩
      | false => rw [hx] at e; obtain ⟨z, hz, ez⟩ := ih e; exact ⟨z, List.mem_cons_of_mem _ hz, ez⟩
  obtain ⟨y, hy, ey⟩ := this _ e
  exact h y hy ey
/-- the fields that stand already -/
def Got (A : Nm) (fs : List Nat) (ws : List V) (gs : List (Str × V)) : Prop := ∀ (j : Nat) f v, fs[j]? = some f → ws[j]? = some v → gs.lookup (A.fn f) = some v
section
variable {X : Cx} {N : List Str} {sc : Scope} {C a : Addr} {σ : L2.St} {H : Hp} {D : Ends}
theorem init_go (hN : X.N = N) (hsc : X.env.scope = sc) (nf : ∀ x, sc.names.lookup x ≠ some .free) (TC : OexC X.K C) (fi : ∀ x i, G.fi.lookup x = some i → A.fn i = x) (finj : ∀ i j, A.fn i = A.fn j → i = j)
    {d : Addr} (hda : d ≠ a) (h0 : σ[0]? = some (some (.ref a))) : ∀ (fs : List Nat) (j : Nat) (body : List Stmt), trX G N sc fs j body = true → (∀ f ∈ fs, PySem.W.findIn X.K (.ref C) (A.fn f) = some none) → fs.Nodup → ∀ (ws : List V), ws.length = fs.length → (∀ i v, ws[i]? = some v → σ[j + i]? = some (some v)) →
    ∀ gs : List (Str × V), gs.length + fs.length ≤ 900 → (∀ gs' : List (Str × V), Got A fs ws gs' → (∀ x v, (∀ f ∈ fs, A.fn f ≠ x) → gs.lookup x = some v → gs'.lookup x = some v) → D.nx σ (upd (upd H d (exd d gs')) a (exo a C (some d)))) → tSs X body D σ (upd (upd H d (exd d gs)) a (exo a C (some d)))
  | [], j, body, ht, _, _, ws, hl, hv, gs, hz, q => by
    cases body with
    | cons _ _ => simp [trX] at ht
    | nil => exact tSs_of pss_nil (q gs (fun j f v e => by cases e) (fun _ _ _ h => h))
  | f :: fs, j, body, ht, hno, hnd, ws, hl, hv, gs, hz, q => by
    obtain ⟨s, p, y, p2, z, p3, p4, r, rfl, t1, t2, t3, t4⟩ := trX_cons ht
    cases ws with
    | nil => cases hl
    | cons v ws =>
      have ey := fi y f t3
      refine tSs_of (pss_cons (ps_ost (nmV_pe hN hsc nf t1) (nmV_pe hN hsc nf t2) rfl) pss_w) ?_
      refine ⟨v, hv 0 v rfl, .ref a, h0, a, C, rfl, TC, by rw [← ey]; exact hno f (List.mem_cons_self ..), .inr ⟨d, gs, upd_same, by rw [upd_ne hda, upd_same], by simp at hz; omega, ?_⟩⟩
      rw [upd_swap hda]
      have hnd' := List.nodup_cons.mp hnd
      refine init_go hN hsc nf TC fi finj hda h0 fs (j + 1) r t4 (fun g hg => hno g (List.mem_cons_of_mem _ hg)) hnd'.2 ws (by simpa using hl) (fun i u e => by have := hv (i + 1) u (by simpa using e); rw [← this]; congr 1; omega) _ (by simp only [List.length_cons] at hz ⊢; omega) fun gs' g1 g2 => q gs' (fun i g u e1 e2 => ?_) (fun x u h1 h2 => ?_)
      · cases i with
        | zero =>
          cases e1; cases e2
          refine g2 _ _ (fun g hg e => hnd'.1 (finj _ _ e ▸ hg)) ?_
          rw [lookup_put, if_pos ey]
        | succ i => exact g1 i g u (by simpa using e1) (by simpa using e2)
      · refine g2 x u (fun g hg => h1 g (List.mem_cons_of_mem _ hg)) ?_
        rw [lookup_put, if_neg]
        · exact h2
        · intro e
          exact h1 f (List.mem_cons_self ..) (ey.trans e.symm)
end
theorem init_ok {P : Program} {w : World} {K : PySem.W.Frag} {mg : Str → Option Value} {base : Heap} {x qual : Str} {params : Arguments} {body : List Stmt} {scope : Scope} {fI C : Addr} {fd : FuncData} {ps : List Str} {fs : List Nat}
    (FD : FunD K x qual params body scope [] [] fI fd) (S : FnScope ps ps scope) (TC : OexC K C) (fi : ∀ x i, G.fi.lookup x = some i → A.fn i = x) (finj : ∀ i j, A.fn i = A.fn j → i = j) (hps : ps.length = fs.length + 1) (hne : fs ≠ []) (hnd : fs.Nodup) (hl9 : fs.length ≤ 900)
    (hno : ∀ f ∈ fs, PySem.W.findIn K (.ref C) (A.fn f) = some none) (ht : trX G ps scope fs 1 body = true) : FnOk P w K mg base (L2.CX P w) 1 fI fd ps (spX A C fs) := by
  refine FD.ok S (fun vs H Q E h => ?_) fun cdv A' outer s H vs Q E hroom hsp => ?_
  · obtain ⟨a, ws, rfl, hl, _⟩ := h
    rw [List.length_cons, hl, hps]
  obtain ⟨a, ws, rfl, hl, ha, q⟩ := hsp
  let X := cxOf (L2.CX P w) P w K mg base ps qual scope fI cdv A' outer s H E
  have nf := no_free S.nofree
  refine ⟨tSs X body, pss_w, ?_⟩
  cases fs with
  | nil => exact absurd rfl hne
  | cons f fs =>
    obtain ⟨s2, p, y, p2, z, p3, p4, r, rfl, t1, t2, t3, t4⟩ := trX_cons ht
    cases ws with
    | nil => cases hl
    | cons v ws =>
      have ey := fi y f t3
      have st : ∀ (i : Nat) u, (V.ref a :: v :: ws)[i]? = some u → (L2.start ps (V.ref a :: v :: ws))[i]? = some (some u) := fun i u e => by
        unfold L2.start
        rw [List.getElem?_append_left (by rw [List.length_map]; exact getE_lt e), List.getElem?_map, e]; rfl
      refine tSs_of (X := X) (pss_cons (ps_ost (nmV_pe rfl rfl nf t1) (nmV_pe rfl rfl nf t2) rfl) pss_w) ?_
      have hnd' := List.nodup_cons.mp hnd
      refine ⟨v, st 1 v rfl, .ref a, st 0 _ rfl, a, C, rfl, TC, by rw [← ey]; exact hno f (List.mem_cons_self ..), .inl ⟨ha, fun d nd hda => ?_⟩⟩
      refine init_go (X := X) (C := C) rfl rfl nf TC fi finj hda (st 0 _ rfl) fs 2 r t4 (fun g hg => hno g (List.mem_cons_of_mem _ hg)) hnd'.2 ws (by simpa using hl) (fun i u e => ?_) _ (by simp only [List.length_cons, List.length_nil] at hl9 ⊢; omega) fun gs' g1 g2 => q d gs' nd hda fun i g u e1 e2 => ?_
      · have := st (i + 2) u (by simpa using e)
        rw [← this]; congr 1; omega
      · cases i with
        | zero =>
          cases e1; cases e2
          refine g2 _ _ (fun g hg e => hnd'.1 (finj _ _ e ▸ hg)) ?_
          rw [lookup_put, if_pos ey]
        | succ i => exact g1 i g u (by simpa using e1) (by simpa using e2)
end
end MP
end

section
set_option Elab.async false
set_option linter.all false
set_option maxRecDepth 100000
set_option maxHeartbeats 8000000
/-! MiniPy: what stands around a text, asked of the written part by one Bool. -/
namespace MP
open PySem PySem.Spec PyProof.Rows L2

/-- the tables of a text, as lists -/
structure TabL where
  globs : List (Option W)
  meths : List (Nat × Nat × Nat)
  inits : List (Nat × Nat)
  eqms : List (Nat × Nat)
  exfs : List (Nat × List Nat)
  subs : List (Nat × Nat)
  plains : List Nat
def TabL.T (B : TabL) : Tab := { glob := fun i => (B.globs[i]?).join, meth := fun c m => (B.meths.find? fun p => p.1 == c && p.2.1 == m).map (·.2.2), init := fun c => B.inits.lookup c, eqm := fun c => B.eqms.lookup c, exf := fun c => B.exfs.lookup c, sub := fun a b => B.subs.contains (a, b), plain := fun c => B.plains.contains c }
structure Lay where
  fnm : List Str
  cnm : List Str
  fat : List (Str × Option Str)
  G : Glo
  B : TabL
/-- names that no text has -/
def fbN (i : Nat) : Str := ⟨(List.replicate (i + 1) 0).toArray⟩
def fnF (l : List Str) (i : Nat) : Str := match l[i]? with | some x => x | none => fbN i
def plainNm (x : Str) : Bool := match x.cps.toList with | c :: _ => c != 0 | [] => true
theorem plain_fb {x : Str} {i : Nat} (h : plainNm x = true) : x ≠ fbN i := fun e => by
  subst e
  unfold plainNm fbN at h
  simp [List.replicate_succ] at h
theorem fb_inj {i j : Nat} (e : fbN i = fbN j) : i = j := by
  unfold fbN at e
  have := congrArg (fun s : Str => s.cps.toList.length) e
  simpa using this
def Lay.nm (L : Lay) (K : PySem.W.Frag) : Nm := ⟨fnF L.fnm, fun f => match L.fat[f]? with | some p => He.fAd K p | none => 0, fun c => match L.cnm[c]? with | some x => He.ga K x | none => 0⟩
/-! ### what needs no heap -/
def Lay.st (L : Lay) : Bool :=
  decide L.fnm.Nodup && L.fnm.all plainNm &&
  L.G.gf.all (fun p => decide (p.2 < L.G.par.length)) &&
  L.G.fi.all (fun p => decide (L.fnm[p.2]? = some p.1)) &&
  L.B.meths.all (fun p => L.B.plains.contains p.1 && (match L.G.mfs.lookup p.2.1 with | some fs => fs.contains p.2.2 | none => false) && decide (p.2.2 < L.G.par.length) && L.G.mi.all fun q => !decide (q.2 = p.2.1) || (!L.fnm.contains q.1 && plainNm q.1)) &&
  L.B.inits.all (fun p => !L.B.plains.contains p.1 || (decide (L.G.cfs.lookup p.1 = some p.2) && decide (p.2 < L.G.par.length))) &&
  L.B.eqms.all (fun p => L.B.plains.contains p.1 && decide (p.2 < L.G.par.length)) &&
  L.B.exfs.all (fun p => p.2.all (fun f => decide (f < L.fnm.length)))
section
variable {L : Lay}
theorem fn_inj (h1 : L.fnm.Nodup) (h2 : L.fnm.all plainNm = true) (i j : Nat) (e : fnF L.fnm i = fnF L.fnm j) : i = j := by
  unfold fnF at e
  cases ei : L.fnm[i]? with
  | some x =>
    rw [ei] at e
    cases ej : L.fnm[j]? with
    | some y => rw [ej] at e; dsimp only at e; subst e; exact nodup_get h1 ei ej
    | none => rw [ej] at e; exact absurd e (plain_fb (List.all_eq_true.mp h2 x (List.mem_of_getElem? ei)))
  | none =>
    rw [ei] at e
    cases ej : L.fnm[j]? with
    | some y => rw [ej] at e; exact absurd e.symm (plain_fb (List.all_eq_true.mp h2 y (List.mem_of_getElem? ej)))
    | none => rw [ej] at e; exact fb_inj e
theorem lookup_mem {α β : Type} [BEq α] [LawfulBEq α] : ∀ {l : List (α × β)} {a : α} {b : β}, l.lookup a = some b → (a, b) ∈ l
  | [], _, _, h => by cases h
  | (x, y) :: l, a, b, h => by
    rw [List.lookup_cons] at h
    cases e : (a == x) with
    | true => rw [e] at h; cases h; rw [eq_of_beq e]; exact List.mem_cons_self ..
    | false => rw [e] at h; exact List.mem_cons_of_mem _ (lookup_mem h)
end
/-! ### what is asked of the written part -/
def cvNs : List String := ["bool", "int", "str", "list", "tuple", "dict", "ValueError"]
def relWB : W → Value → Bool
  | .non, .none => true
  | .bl b, .bool c => b == c
  | .int i, .int j _ => decide (i = j)
  | .str x, .str y _ => decide (x = y)
  | _, _ => false
def oexB (K : PySem.W.Frag) (C : Addr) : Bool := match K.lookup C with
  | some ⟨.type "type", _, .cls cd, sl⟩ => (match cd.mro, sl.toList with
    | .ref C' :: bm, [_, _, _, _, some (.builtin n), _] => C' == C && n == "ValueError.__new__" && !cd.hasDel && cd.hasDict && PySem.HandSPX.refsVE bm
    | _, _ => false)
  | _ => false
def eqO (a b : Option (Option Value)) : Bool := decide (a = b)
def clsB (L : Lay) (K : PySem.W.Frag) (C : Addr) : Bool :=
  PySem.W.plainGet K C Str.empty && PySem.W.hasDictIn K C && PySem.W.plainOver K C && eqO (PySem.W.findIn K (.ref C) "__setattr__") (some (some (.builtin "object.__setattr__"))) &&
  L.G.fi.all (fun p => eqO (PySem.W.findIn K (.ref C) p.1) (some none)) && eqO (PySem.W.findIn K (.ref C) "__class__") (some (some (.builtin "object.__class__"))) && decide (PySem.W.mroIn K C (.type "object") = some true)
def exB (L : Lay) (K : PySem.W.Frag) (c : Nat) (fs : List Nat) : Bool :=
  let C := (L.nm K).ca c
  oexB K C && eqO (PySem.W.findIn K (.ref C) "__setattr__") (some (some (.builtin "object.__setattr__"))) && decide (PySem.W.subIn K (.ref C) (.type "BaseException") = some true) && decide (PySem.W.typeIn K (.ref C) = some (.type "type")) && PySem.W.keepIn K (.ref C) &&
  xfB K C && eqO (PySem.W.findIn K (.ref C) "__class__") (some (some (.builtin "object.__class__"))) && decide (PySem.W.mroIn K C (.type "object") = some true) &&
  fs.all (fun f => eqO (PySem.W.findIn K (.ref C) (fnF L.fnm f)) (some none)) && eqO (PySem.W.findIn K (.ref C) "__init__") (some (some (.ref (He.ma K C "__init__")))) && decide (PySem.W.typeIn K (.ref (He.ma K C "__init__")) = some (.type "function")) &&
  L.G.exs.all (fun d => decide (PySem.W.exmOne K (.ref C) (.ref ((L.nm K).ca d)) = some (L.B.subs.contains (c, d)))) && cvNs.all (fun n => decide (PySem.W.kitOne K (.ref C) (.type n) = some (decide (n = "ValueError")))) &&
  L.G.gc.all (fun p => decide (PySem.W.kitOne K (.ref C) (.ref ((L.nm K).ca p.2)) = some (L.B.subs.contains (c, p.2))))
def eqB (L : Lay) (K : PySem.W.Frag) (c f : Nat) : Bool :=
  let C := (L.nm K).ca c
  eqO (PySem.W.findIn K (.ref C) "__eq__") (some (some (.ref ((L.nm K).fa f)))) && PySem.W.isFn K (.ref ((L.nm K).fa f)) && eqO (PySem.W.findIn K (.ref C) "__ne__") (some (some (.builtin "object.__ne__"))) && decide (PySem.W.mroIn K C (.type "object") = some true) &&
  tyNs.all (fun n => PySem.W.notFirst K C (.type n)) && L.B.plains.all (fun d => PySem.W.notFirst K C (.ref ((L.nm K).ca d)))
def Lay.kb (L : Lay) (K : PySem.W.Frag) : Bool :=
  L.G.gf.all (fun p => eqO (PySem.W.nsIn K mainGlobals p.1) (some (some (.ref ((L.nm K).fa p.2))))) &&
  L.G.gc.all (fun p => eqO (PySem.W.nsIn K mainGlobals p.1) (some (some (.ref ((L.nm K).ca p.2))))) &&
  L.G.gv.all (fun p => match (L.B.globs[p.2]?).join with | none => true | some w => (match PySem.W.nsIn K mainGlobals p.1 with | some (some u) => relWB w u | _ => false)) &&
  L.G.free.all (fun x => eqO (PySem.W.nsIn K mainGlobals x) (some none)) &&
  L.B.plains.all (fun c => clsB L K ((L.nm K).ca c)) &&
  L.B.meths.all (fun p => L.G.mi.all fun q => !decide (q.2 = p.2.1) || (eqO (PySem.W.findIn K (.ref ((L.nm K).ca p.1)) q.1) (some (some (.ref ((L.nm K).fa p.2.2)))) && PySem.W.isFn K (.ref ((L.nm K).fa p.2.2)) && PySem.W.keepIn K (.ref ((L.nm K).fa p.2.2)))) &&
  L.B.inits.all (fun p => !L.B.plains.contains p.1 || (PySem.W.makesIn K ((L.nm K).ca p.1) && eqO (PySem.W.findIn K (.ref ((L.nm K).ca p.1)) "__init__") (some (some (.ref ((L.nm K).fa p.2)))) && PySem.W.isFn K (.ref ((L.nm K).fa p.2)) && PySem.W.keepIn K (.ref ((L.nm K).ca p.1)))) &&
  L.G.cfs.all (fun p => PySem.W.keepIn K (.ref ((L.nm K).ca p.1))) &&
  eqO (PySem.W.specialIn K (.builtin "object.__class__") "__get__") (some (some (.builtin "getset_descriptor.__get__"))) &&
  decide (PySem.W.takesIn K (.builtin "object.__class__") = some true) &&
  tyNs.all (fun n => cvNs.all fun m => decide (PySem.W.kitOne K (.type n) (.type m) = some (decide (n = m) || (decide (n = "bool") && decide (m = "int"))))) &&
  tyNs.all (fun n => L.G.gc.all fun p => decide (PySem.W.kitOne K (.type n) (.ref ((L.nm K).ca p.2)) = some false)) &&
  L.B.plains.all (fun c => cvNs.all fun m => decide (PySem.W.kitOne K (.ref ((L.nm K).ca c)) (.type m) = some false)) &&
  L.B.plains.all (fun c => L.G.gc.all fun p => decide (PySem.W.kitOne K (.ref ((L.nm K).ca c)) (.ref ((L.nm K).ca p.2)) = some (L.B.subs.contains (c, p.2)))) &&
  L.B.exfs.all (fun p => exB L K p.1 p.2) &&
  L.B.eqms.all (fun p => eqB L K p.1 p.2) &&
  K.all (fun p => match p.2.cls with | .type n => n != "list" | _ => true)
section
variable {L : Lay} {P : Program} {w : World} {K : PySem.W.Frag} {mg : Str → Option Value} {base : Heap}
theorem eqO_ok {a b : Option (Option Value)} (h : eqO a b = true) : a = b := of_decide_eq_true h
theorem relWB_ok {w : W} {u : Value} (h : relWB w u = true) : ∃ v, RelV v u ∧ ∀ (A : Nm) m H, RelW K A m H w v := by
  unfold relWB at h
  split at h
  · exact ⟨.non, rfl, fun _ _ _ => rfl⟩
  · rename_i b c
    have e : b = c := by simpa using h
    exact ⟨.bl b, by rw [e]; rfl, fun _ _ _ => rfl⟩
  · rename_i i j t
    have e : i = j := by simpa using h
    exact ⟨.int i, by rw [e]; exact ⟨t, rfl⟩, fun _ _ _ => rfl⟩
  · rename_i i j t
    have e : i = j := by simpa using h
    exact ⟨.str i, by rw [e]; exact ⟨t, rfl⟩, fun _ _ _ => rfl⟩
  · cases h
theorem oexB_ok {C : Addr} (h : oexB K C = true) : ∃ nm q N bs bm sn sub ab col dd k0 k1 k2 k3 k5, K.lookup C = some (excClassObj nm q C N bs bm true sn sub ab col dd k0 k1 k2 k3 k5 "ValueError.__new__") ∧ PySem.HandSPX.refsVE bm = true := by
  unfold oexB at h
  split at h
  · rename_i dd cd sl ho
    split at h
    · rename_i C' bm k0 k1 k2 k3 n k5 hm hs
      simp only [Bool.and_eq_true, beq_iff_eq, Bool.not_eq_true'] at h
      obtain ⟨⟨⟨⟨rfl, rfl⟩, hdel⟩, hdict⟩, hr⟩ := h
      obtain ⟨nm, bs, mro, ns, qn, hd, sn, sub, ab, col, del⟩ := cd
      dsimp only at hm hdel hdict
      subst hm hdel hdict
      have hsl : sl = #[k0, k1, k2, k3, some (.builtin "ValueError.__new__"), k5] := by
        obtain ⟨l⟩ := sl
        simp only at hs
        rw [hs]
      subst hsl
      exact ⟨nm, qn, ns, bs, bm, sn, sub, ab, col, dd, k0, k1, k2, k3, k5, ho, hr⟩
    · cases h
  · cases h
/-- a written part without lists -/
theorem no_list (h : L.kb K = true) {a : Addr} {o : Obj} (e : K.lookup a = some o) : o.cls ≠ .type "list" := fun c => by
  unfold Lay.kb at h
  rw [Bool.and_eq_true] at h
  have := List.all_eq_true.mp h.2 (a, o) (lookup_mem e)
  rw [c] at this
  cases this
/-- an exception's __init__, its text tied -/
structure ExDef (L : Lay) (K : PySem.W.Frag) (c : Nat) (fs : List Nat) : Prop where
  d : ∃ x qual params body scope fd ps, FunD K x qual params body scope [] [] (He.ma K ((L.nm K).ca c) "__init__") fd ∧ FnScope ps ps scope ∧ Binds K fd ps [] ∧ ps.length = fs.length + 1 ∧ fs ≠ [] ∧ fs.Nodup ∧ fs.length ≤ 900 ∧ trX L.G ps scope fs 1 body = true
theorem fx0_of (KX : K.In base) (hG : base.Ns mainGlobals mg) (hs : L.st = true) (hk : L.kb K = true) (hx : ∀ c fs, (c, fs) ∈ L.B.exfs → ExDef L K c fs) : Fx0 P w K mg base L.G (L.nm K) L.B.T := by
  unfold Lay.st at hs
  simp only [Bool.and_eq_true, decide_eq_true_eq] at hs
  obtain ⟨⟨⟨⟨⟨⟨⟨s1, s2⟩, s3⟩, s4⟩, s5⟩, s6⟩, s7⟩, s8⟩ := hs
  unfold Lay.kb at hk
  simp only [Bool.and_eq_true] at hk
  obtain ⟨⟨⟨⟨⟨⟨⟨⟨⟨⟨⟨⟨⟨⟨⟨⟨k1, k2⟩, k3⟩, k4⟩, k5⟩, k6⟩, k7⟩, k8⟩, k9⟩, k10⟩, k11⟩, k12⟩, k13⟩, k14⟩, k15⟩, k16⟩, k17⟩ := hk
  have finj : ∀ i j, (L.nm K).fn i = (L.nm K).fn j → i = j := fn_inj s1 s2
  have fi : ∀ x i, L.G.fi.lookup x = some i → (L.nm K).fn i = x := fun x i e => by
    have := of_decide_eq_true (List.all_eq_true.mp s4 _ (lookup_mem e))
    show fnF L.fnm i = x
    unfold fnF
    rw [this]
  have ty : ∀ {n : String}, n ∈ ["NoneType", "bool", "int", "str", "list", "tuple", "dict"] → n ∈ tyNs := fun h => h
  have cv : ∀ {n : String}, n ∈ ["bool", "int", "str", "list", "tuple", "dict", "ValueError"] → n ∈ cvNs := fun h => h
  have exb : ∀ c fs, L.B.T.exf c = some fs → exB L K c fs = true := fun c fs e => List.all_eq_true.mp k15 (c, fs) (lookup_mem e)
  have pl : ∀ {c}, L.B.T.plain c = true → c ∈ L.B.plains := fun {c} h => by simpa [TabL.T] using h
  have meth : ∀ {c m f}, L.B.T.meth c m = some f → (c, m, f) ∈ L.B.meths := fun {c m f} e => by
    obtain ⟨p, ep, rfl⟩ := Option.map_eq_some_iff.mp e
    have h1 := List.find?_some ep
    have h2 := List.mem_of_find?_eq_some ep
    simp only [Bool.and_eq_true, beq_iff_eq] at h1
    obtain ⟨rfl, rfl⟩ := h1
    exact h2
  refine ⟨fun c fs e => ?_, fun c fs d e hd => ?_, fun c fs cvv e ⟨n, hc, hn⟩ => ?_, fun c fs d e ⟨x, hx'⟩ => ?_, fun x f e => ?_, fun x c e => ?_, fun x i e u eu => ?_, fun x e => ?_, fi, finj, fun c hc => ?_, fun c m f e => ?_, fun c f hc e => ?_, fun c f e => ?_, fun c f e => ?_, eqO_ok k9, of_decide_eq_true k10,
    fun t cvv ⟨n, h1, h2⟩ ⟨m, h3, h4⟩ => ?_, fun t c ⟨n, h1, h2⟩ ⟨x, h3⟩ => ?_, fun c cvv hc ⟨m, h3, h4⟩ => ?_, fun c d hc ⟨x, h3⟩ => ?_⟩
  · have h := exb c fs e
    unfold exB at h
    simp only [Bool.and_eq_true] at h
    obtain ⟨⟨⟨⟨⟨⟨⟨⟨⟨⟨⟨⟨⟨a1, a2⟩, a3⟩, a4⟩, a5⟩, a6⟩, a7⟩, a8⟩, a9⟩, a10⟩, a11⟩, a12⟩, a13⟩, a14⟩ := h
    have TC : OexC K ((L.nm K).ca c) := ⟨oexB_ok a1, eqO_ok a2, of_decide_eq_true a3, of_decide_eq_true a4, a5⟩
    have xf := xfB_ok a6
    obtain ⟨x, qual, params, body, scope, fd, ps, FD, S, hb, hps, hne, hnd, hl9, ht⟩ := (hx c fs (lookup_mem e)).d
    have hno : ∀ f ∈ fs, PySem.W.findIn K (.ref ((L.nm K).ca c)) ((L.nm K).fn f) = some none := fun f hf => eqO_ok (List.all_eq_true.mp a9 f hf)
    exact ⟨TC, hl9, xf, ⟨xf.ga, xf.gg, xf.exC, xf.hdC, eqO_ok a7, eqO_ok k9, of_decide_eq_true k10, of_decide_eq_true a8⟩, hno, _, fd, ps, eqO_ok a10, of_decide_eq_true a11, init_ok FD S TC fi finj hps hne hnd hl9 hno ht, hb⟩
  · have h := exb c fs e
    unfold exB at h
    simp only [Bool.and_eq_true] at h
    exact of_decide_eq_true (List.all_eq_true.mp h.1.1.2 d hd)
  · have h := exb c fs e
    unfold exB at h
    simp only [Bool.and_eq_true] at h
    have z := of_decide_eq_true (List.all_eq_true.mp h.1.2 n (cv hn))
    rw [hc, z]
    simp
  · have h := exb c fs e
    unfold exB at h
    simp only [Bool.and_eq_true] at h
    exact of_decide_eq_true (List.all_eq_true.mp h.2 _ (lookup_mem hx'))
  · exact ⟨of_decide_eq_true (List.all_eq_true.mp s3 _ (lookup_mem e)), PySem.W.mg_of KX hG (eqO_ok (List.all_eq_true.mp k1 _ (lookup_mem e)))⟩
  · exact PySem.W.mg_of KX hG (eqO_ok (List.all_eq_true.mp k2 _ (lookup_mem e)))
  · have h := List.all_eq_true.mp k3 _ (lookup_mem e)
    have eu' : (L.B.globs[i]?).join = some u := eu
    dsimp only at h
    rw [eu'] at h
    dsimp only at h
    split at h <;> first | (cases h; done) | skip
    rename_i uu hns
    obtain ⟨v, rv, rw'⟩ := relWB_ok (K := K) h
    exact ⟨uu, v, PySem.W.mg_of KX hG hns, rv, rw' _⟩
  · exact PySem.W.mg_none_of KX hG (eqO_ok (List.all_eq_true.mp k4 x (by simpa using e)))
  · have h := List.all_eq_true.mp k5 c (pl hc)
    unfold clsB at h
    simp only [Bool.and_eq_true] at h
    obtain ⟨⟨⟨⟨⟨⟨a1, a2⟩, a3⟩, a4⟩, a5⟩, a6⟩, a7⟩ := h
    refine ⟨⟨a1, a2, a3, eqO_ok a4⟩, fun x i e => ?_, eqO_ok a6, of_decide_eq_true a7⟩
    have := List.all_eq_true.mp a5 _ (lookup_mem e)
    rw [fi x i e]
    exact eqO_ok this
  · have hm := meth e
    have h1 := List.all_eq_true.mp s5 _ hm
    simp only [Bool.and_eq_true, decide_eq_true_eq] at h1
    obtain ⟨⟨⟨b1, b2⟩, b3⟩, b4⟩ := h1
    refine ⟨b1, ?_, b3, fun x hx' => ?_⟩
    · split at b2
      · rename_i fs hfs; exact ⟨fs, hfs, by simpa using b2⟩
      · cases b2
    · have c1 := List.all_eq_true.mp b4 _ (lookup_mem hx')
      have c2 := List.all_eq_true.mp (List.all_eq_true.mp k6 _ hm) _ (lookup_mem hx')
      simp only [decide_true, Bool.not_true, Bool.false_or, Bool.and_eq_true, Bool.not_eq_true'] at c1 c2
      refine ⟨⟨eqO_ok c2.1.1, c2.1.2, c2.2⟩, fun i ei => ?_⟩
      have ei : fnF L.fnm i = x := ei
      unfold fnF at ei
      cases eg : L.fnm[i]? with
      | some y =>
        rw [eg] at ei
        dsimp only at ei
        subst ei
        have := c1.1
        have hmem := List.mem_of_getElem? eg
        simp at this
        exact this hmem
      | none =>
        rw [eg] at ei
        exact plain_fb c1.2 ei.symm
  · have hm := lookup_mem (show L.B.inits.lookup c = some f from e)
    have h1 := List.all_eq_true.mp s6 _ hm
    have h2 := List.all_eq_true.mp k7 _ hm
    have hc' : L.B.plains.contains c = true := hc
    simp only [hc', Bool.not_true, Bool.false_or, Bool.and_eq_true, decide_eq_true_eq] at h1 h2
    exact ⟨h1.1, h1.2, h2.1.1.1, eqO_ok h2.1.1.2, h2.1.2, h2.2⟩
  · exact List.all_eq_true.mp k8 _ (lookup_mem e)
  · have hm := lookup_mem (show L.B.eqms.lookup c = some f from e)
    have h1 := List.all_eq_true.mp s7 _ hm
    have h2 := List.all_eq_true.mp k16 _ hm
    unfold eqB at h2
    simp only [Bool.and_eq_true, decide_eq_true_eq] at h1 h2
    obtain ⟨⟨⟨⟨⟨a1, a2⟩, a3⟩, a4⟩, a5⟩, a6⟩ := h2
    refine ⟨h1.1, h1.2, fun A' s a dx u tv b Q E X ha ⟨od, hod⟩ LT htv hu hb hc => ?_⟩
    have I : PySem.W.InstAt s.heap a (PySem.W.instObj ((L.nm K).ca c) dx) ((L.nm K).ca c) (some od) := ⟨ha, rfl, rfl, hod⟩
    have nf : PySem.W.notFirst K ((L.nm K).ca c) tv = true := by
      rcases htv with ⟨n, hn, rfl⟩ | ⟨d, hd, rfl⟩
      · exact List.all_eq_true.mp a5 n (ty hn)
      · exact List.all_eq_true.mp a6 d (pl hd)
    cases b with
    | true => exact PySem.W.mpEq (by omega) X I LT nf (eqO_ok a1) a2 (wpAny_mono hc (fun v s' ⟨r, e, q⟩ => ⟨r, e, by simpa using q⟩) fun _ _ x => x)
    | false => exact PySem.W.mpNe hu X I LT nf (eqO_ok a1) a2 (eqO_ok a3) a4 (wpAny_mono hc (fun v s' ⟨r, e, q⟩ => ⟨r, e, by simpa using q⟩) fun _ _ x => x)
  · have := of_decide_eq_true (List.all_eq_true.mp (List.all_eq_true.mp k11 n (ty h2)) m (cv h4))
    rw [h1, h3, this]
    simp
  · rw [h1]
    exact of_decide_eq_true (List.all_eq_true.mp (List.all_eq_true.mp k12 n (ty h2)) _ (lookup_mem h3))
  · rw [h3]
    exact of_decide_eq_true (List.all_eq_true.mp (List.all_eq_true.mp k13 c (pl hc)) m (cv h4))
  · exact of_decide_eq_true (List.all_eq_true.mp (List.all_eq_true.mp k14 c (pl hc)) _ (lookup_mem h3))
end
end MP
end

section
set_option Elab.async false
set_option linter.all false
set_option maxRecDepth 100000
set_option maxHeartbeats 8000000
/-! MiniPy: from a text's tables to its law. -/
namespace MP
open PySem PySem.Spec PyProof.Rows L2

/-- one def: where it stands, its parameters, its names, its calls with keywords -/
structure DefL where
  d : He.DefD
  ps : List Str
  N : List Str
  kw : List (Nat × List Str × List Nat)
  df : List (Nat × List Int) := []
def scB (N ps : List Str) (sc : Scope) : Bool := (match sc.kind with | .function => true | _ => false) && !sc.isCoroutine && !sc.isGenerator && decide N.Nodup && decide (N.take ps.length = ps) &&
  ps.all (fun y => match sc.names.lookup y with | some .local => true | some .cell => true | _ => false) && sc.names.all (fun y => match y.2 with | .free => false | _ => true)
theorem scB_ok {N ps : List Str} {sc : Scope} (h : scB N ps sc = true) : FnScope N ps sc := by
  unfold scB at h
  simp only [Bool.and_eq_true, Bool.not_eq_true', decide_eq_true_eq] at h
  obtain ⟨⟨⟨⟨⟨⟨h1, h2⟩, h3⟩, h4⟩, h5⟩, h6⟩, h7⟩ := h
  refine ⟨?_, h2, h3, h4, h5, fun x hx => ?_, fun y hy e => ?_⟩
  · split at h1
    · assumption
    · cases h1
  · have := List.all_eq_true.mp h6 x hx
    split at this
    · exact .inl (by assumption)
    · exact .inr (by assumption)
    · cases this
  · have := List.all_eq_true.mp h7 y hy
    rw [e] at this
    cases this
/-- defaults that are whole numbers -/
def dvIs : List He.Dv → List Int → Bool
  | [], [] => true
  | .int i :: r, j :: s => decide (i = j) && dvIs r s
  | _, _ => false
theorem dvIs_v {K : PySem.W.Frag} : ∀ {l : List He.Dv} {ds : List Int}, dvIs l ds = true → l.map (He.Dv.v K) = ds.map V.int
  | [], [], _ => rfl
  | [], _ :: _, h => by cases h
  | .int i :: r, j :: s, h => by
    rw [dvIs, Bool.and_eq_true, decide_eq_true_eq] at h
    rw [List.map_cons, List.map_cons, dvIs_v h.2, h.1]; rfl
  | .int i :: r, [], h => by cases h
  | .non :: _, _, h => by simp [dvIs] at h
  | .bl _ :: _, _, h => by simp [dvIs] at h
  | .str _ :: _, _, h => by simp [dvIs] at h
  | .byt _ :: _, _, h => by simp [dvIs] at h
  | .flt _ :: _, _, h => by simp [dvIs] at h
  | .ty _ :: _, _, h => by simp [dvIs] at h
  | .glo _ :: _, _, h => by simp [dvIs] at h
  | .adr _ :: _, _, h => by simp [dvIs] at h
def DefL.ok (L : Lay) (p : Pg) (f : Nat) (x : DefL) : Bool := scB x.N x.ps x.d.scope &&
  (match p.fns[f]? with | some d => d.np == x.ps.length && d.ns == x.N.length && trSs L.G x.N x.d.scope d.body x.d.body | none => false) &&
  decide (L.fat[f]? = some x.d.at_) && x.d.kwd.isEmpty && decide (L.G.par[f]? = some x.ps) && L.G.kwp.all (fun e => e.1 != f || x.kw.contains e.2) && L.G.dfp.all (fun e => e.1 != f || x.df.contains e.2) && x.df.all (fun e => !x.d.dfl.isEmpty && decide (e.1 + e.2.length = x.ps.length) && decide (e.2.length ≤ x.d.dfl.length) && dvIs (x.d.dfl.drop (x.d.dfl.length - e.2.length)) e.2)
def defsOk (L : Lay) (p : Pg) : Nat → List DefL → Bool
  | _, [] => true
  | f, x :: xs => x.ok L p f && defsOk L p (f + 1) xs
def exOk (L : Lay) (c : Nat) (fs : List Nat) (x : DefL) : Bool := scB x.ps x.ps x.d.scope && decide ((L.cnm[c]?).map (fun n => (n, some ("__init__" : Str))) = some x.d.at_) && x.d.dfl.isEmpty && x.d.kwd.isEmpty && decide (x.ps.length = fs.length + 1) && !fs.isEmpty && decide fs.Nodup && decide (fs.length ≤ 900) && trX L.G x.ps x.d.scope fs 1 x.d.body
def exsOk (L : Lay) : List (Nat × List Nat) → List DefL → Bool
  | [], [] => true
  | e :: es, x :: xs => exOk L e.1 e.2 x && exsOk L es xs
  | _, _ => false
/-- how the values are bound -/
structure BindL (x : DefL) : Prop where
  bp : x.d.dfl.isEmpty = true → ∀ (kV doc pm : Value) (an : Option Addr) (cdv ct : Value) (us : List Value), us.length = x.ps.length → bindArgs (PySem.W.fnOf x.d.name x.d.qual x.d.params x.d.body x.d.scope .none kV doc pm an cdv ct) ⟨us, []⟩ = pure (x.ps.zip us)
  bk : x.d.dfl.isEmpty = true → ∀ e ∈ x.kw, ∀ (kV doc pm : Value) (an : Option Addr) (cdv ct : Value) (us ws : List Value), us.length = e.1 → ws.length = e.2.1.length →
    ∃ xs, e.2.2.mapM (fun i => (us ++ ws)[i]?) = some xs ∧ xs.length = x.ps.length ∧ bindArgs (PySem.W.fnOf x.d.name x.d.qual x.d.params x.d.body x.d.scope .none kV doc pm an cdv ct) ⟨us, e.2.1.zip ws⟩ = pure (x.ps.zip xs)
  dp : x.d.dfl.isEmpty = false → ∀ n, (n = x.ps.length ∨ ∃ ds, (n, ds) ∈ x.df) → ∀ (T : Addr) (kV doc pm : Value) (an : Option Addr) (cdv ct : Value) (us its : List Value), us.length = n → its.length = x.d.dfl.length →
    ∃ k, bindArgs (PySem.W.fnOf x.d.name x.d.qual x.d.params x.d.body x.d.scope (.ref T) kV doc pm an cdv ct) ⟨us, []⟩ = seqItems? (.ref T) >>= k ∧ k (some its.toArray) = pure (x.ps.zip (us ++ its.drop (its.length - (x.ps.length - n))))
  dk : x.d.dfl.isEmpty = false → ∀ e ∈ x.kw, ∀ (T : Addr) (kV doc pm : Value) (an : Option Addr) (cdv ct : Value) (us ws its : List Value), us.length = e.1 → ws.length = e.2.1.length → its.length = x.d.dfl.length →
    ∃ xs, e.2.2.mapM (fun i => (us ++ ws)[i]?) = some xs ∧ xs.length = x.ps.length ∧ ∃ k, bindArgs (PySem.W.fnOf x.d.name x.d.qual x.d.params x.d.body x.d.scope (.ref T) kV doc pm an cdv ct) ⟨us, e.2.1.zip ws⟩ = seqItems? (.ref T) >>= k ∧ k (some its.toArray) = pure (x.ps.zip xs)
def AllBind : List DefL → Prop
  | [] => True
  | x :: xs => BindL x ∧ AllBind xs
section
variable {L : Lay} {p : Pg} {K : PySem.W.Frag}
theorem fd_form {x : DefL} {fd : FuncData} {f : Addr} (h1 : x.d.dfl.isEmpty = true) (h2 : x.d.kwd.isEmpty = true) (F : FunD K x.d.name x.d.qual x.d.params x.d.body x.d.scope (x.d.dvs K) (x.d.kws K) f fd) :
    FunD K x.d.name x.d.qual x.d.params x.d.body x.d.scope [] [] f fd ∧ ∃ kV doc pm an cdv ct, fd = PySem.W.fnOf x.d.name x.d.qual x.d.params x.d.body x.d.scope .none kV doc pm an cdv ct := by
  have e1 : x.d.dvs K = [] := by unfold He.DefD.dvs; rw [isEmpty_eq h1]; rfl
  have e2 : x.d.kws K = [] := by unfold He.DefD.kws; rw [isEmpty_eq h2]; rfl
  rw [e1, e2] at F
  refine ⟨F, ?_⟩
  obtain ⟨oc, od, dV, kV, doc, pm, an, cdv, ct, osl, rfl, lk, hcd, hD, hK⟩ := F.ex
  rcases hD with ⟨_, rfl⟩ | ⟨e, _⟩
  · exact ⟨kV, doc, pm, an, cdv, ct, rfl⟩
  · exact absurd rfl e
theorem fd_formD {x : DefL} {fd : FuncData} {f : Addr} (h1 : x.d.dfl.isEmpty = false) (F : FunD K x.d.name x.d.qual x.d.params x.d.body x.d.scope (x.d.dvs K) (x.d.kws K) f fd) :
    ∃ T its o m kV doc pm an cdv ct, fd = PySem.W.fnOf x.d.name x.d.qual x.d.params x.d.body x.d.scope (.ref T) kV doc pm an cdv ct ∧ K.lookup T = some o ∧ o.data = .seq its.toArray m ∧ Vals (x.d.dvs K) its ∧ its.length = x.d.dfl.length := by
  obtain ⟨oc, od, dV, kV, doc, pm, an, cdv, ct, osl, rfl, lk, hcd, hD, hK⟩ := F.ex
  rcases hD with ⟨e, _⟩ | ⟨_, T, o, its, m, rfl, lT, oT, rT⟩
  · unfold He.DefD.dvs at e
    rw [List.map_eq_nil_iff.mp e] at h1
    cases h1
  · exact ⟨T, its, o, m, kV, doc, pm, an, cdv, ct, rfl, lT, oT, rT, by rw [← rT.length]; unfold He.DefD.dvs; rw [List.length_map]⟩
theorem def_of {x : DefL} {f : Nat} {fd : FuncData} (h : x.ok L p f = true) (b : BindL x) (F : FunD K x.d.name x.d.qual x.d.params x.d.body x.d.scope (x.d.dvs K) (x.d.kws K) (He.fAd K x.d.at_) fd) :
    L.G.par[f]? = some x.ps ∧ DefOk K L.G (L.nm K) p f x.ps fd := by
  unfold DefL.ok at h
  simp only [Bool.and_eq_true, decide_eq_true_eq] at h
  obtain ⟨⟨⟨⟨⟨⟨⟨h1, h2⟩, h3⟩, h5⟩, h6⟩, h7⟩, h8⟩, h9⟩ := h
  have ea : (L.nm K).fa f = He.fAd K x.d.at_ := by
    show (match L.fat[f]? with | some p => He.fAd K p | none => 0) = _
    rw [h3]
  split at h2 <;> first | (cases h2; done) | skip
  rename_i d hd
  simp only [Bool.and_eq_true, beq_iff_eq] at h2
  have kwm : ∀ n ks q, (f, n, ks, q) ∈ L.G.kwp → (n, ks, q) ∈ x.kw := fun n ks q hm => by
    have := List.all_eq_true.mp h7 _ hm
    simp only [bne_self_eq_false, Bool.false_or] at this
    simpa using this
  have dfm : ∀ n ds, (f, n, ds) ∈ L.G.dfp → (n, ds) ∈ x.df := fun n ds hm => by
    have := List.all_eq_true.mp h8 _ hm
    simp only [bne_self_eq_false, Bool.false_or] at this
    simpa using this
  have tie : ∃ x_ qual params body scope N d dvs kws, FunD K x_ qual params body scope dvs kws ((L.nm K).fa f) fd ∧ FnScope N x.ps scope ∧ p.fns[f]? = some d ∧ d.np = x.ps.length ∧ d.ns = N.length ∧ trSs L.G N scope d.body body = true :=
    ⟨x.d.name, x.d.qual, x.d.params, x.d.body, x.d.scope, x.N, d, _, _, by rw [ea]; exact F, scB_ok h1, hd, h2.1.1, h2.1.2, h2.2⟩
  have kp : PySem.W.keepIn K (.ref ((L.nm K).fa f)) = true := by rw [ea]; exact F.kp
  cases h4 : x.d.dfl.isEmpty with
  | true =>
    obtain ⟨F2, kV, doc, pm, an, cdv, ct, rfl⟩ := fd_form h4 h5 F
    refine ⟨h6, kp, fun us hl s _ => .of_eq (b.bp h4 kV doc pm an cdv ct us hl), fun n ks q hm us ws e1 e2 => ?_, fun n ds hm => ?_, tie⟩
    · obtain ⟨xs, q1, q2, q3⟩ := b.bk h4 (n, ks, q) (kwm n ks q hm) kV doc pm an cdv ct us ws e1 e2
      exact ⟨xs, q1, q2, fun s _ => .of_eq q3⟩
    · have := List.all_eq_true.mp h9 _ (dfm n ds hm)
      rw [h4] at this
      simp at this
  | false =>
    obtain ⟨T, its, o, m, kV, doc, pm, an, cdv, ct, rfl, lT, oT, rT, hlI⟩ := fd_formD h4 F
    refine ⟨h6, kp, fun us hl s KX => ?_, fun n ks q hm us ws e1 e2 => ?_, fun n ds hm => ?_, tie⟩
    · obtain ⟨k, q1, q2⟩ := b.dp h4 _ (.inl rfl) T kV doc pm an cdv ct us its hl hlI
      rw [Nat.sub_self, Nat.sub_zero, List.drop_length, List.append_nil] at q2
      refine BindsTo.of_looks fun M => ?_
      rw [q1]
      exact looks_items KX lT oT (.of_pure q2)
    · obtain ⟨xs, q1, q2, k, q3, q4⟩ := b.dk h4 (n, ks, q) (kwm n ks q hm) T kV doc pm an cdv ct us ws its e1 e2 hlI
      refine ⟨xs, q1, q2, fun s KX => BindsTo.of_looks fun M => ?_⟩
      rw [q3]
      exact looks_items KX lT oT (.of_pure q4)
    · have hx := List.all_eq_true.mp h9 _ (dfm n ds hm)
      simp only [Bool.and_eq_true, decide_eq_true_eq] at hx
      obtain ⟨⟨⟨_, g1⟩, g2⟩, g3⟩ := hx
      refine ⟨g1, its.drop (x.d.dfl.length - ds.length), ?_, fun us hl s KX => ?_⟩
      · have := dvIs_v (K := K) g3
        rw [← this, List.map_drop]
        exact rT.drop _
      · obtain ⟨k, q1, q2⟩ := b.dp h4 n (.inr ⟨ds, dfm n ds hm⟩) T kV doc pm an cdv ct us its hl hlI
        rw [show its.length - (x.ps.length - n) = x.d.dfl.length - ds.length by rw [hlI]; omega] at q2
        refine BindsTo.of_looks fun M => ?_
        rw [q1]
        exact looks_items KX lT oT (.of_pure q2)
theorem ex_of {x : DefL} {c : Nat} {fs : List Nat} {fd : FuncData} (h : exOk L c fs x = true) (b : BindL x) (F : FunD K x.d.name x.d.qual x.d.params x.d.body x.d.scope (x.d.dvs K) (x.d.kws K) (He.fAd K x.d.at_) fd) : ExDef L K c fs := by
  unfold exOk at h
  simp only [Bool.and_eq_true, decide_eq_true_eq, Bool.not_eq_true'] at h
  obtain ⟨⟨⟨⟨⟨⟨⟨⟨h1, h2⟩, h3⟩, h4⟩, h5⟩, h6⟩, h7⟩, h8⟩, h9⟩ := h
  obtain ⟨F, kV, doc, pm, an, cdv, ct, rfl⟩ := fd_form h3 h4 F
  obtain ⟨n, en, ee⟩ := Option.map_eq_some_iff.mp h2
  have ea : He.fAd K x.d.at_ = He.ma K ((L.nm K).ca c) "__init__" := by
    rw [← ee]
    show He.ma K (He.ga K n) "__init__" = He.ma K (match L.cnm[c]? with | some x => He.ga K x | none => 0) "__init__"
    rw [en]
  rw [ea] at F
  exact ⟨_, _, _, _, _, _, x.ps, F, scB_ok h1, .all fun us hl => b.bp h3 kV doc pm an cdv ct us hl, h5, by simpa using h6, h7, h8, h9⟩
/-! ### the Hook -/
def obsM (L : Lay) (fn : List He.DefD) (K : PySem.W.Frag) : He.AlD := (L.kb K && fn.all fun d => d.ok K, fn.map fun d => He.fnW K d.at_)
def SaysM (L : Lay) (fn : List He.DefD) (K : PySem.W.Frag) : Prop := obsM L fn K = He.valD fn
def obsMG (n : Nat) (L : Lay) (fn : List He.DefD) (g : Addr → Option Obj) : He.AlD := obsM L fn (He.frG g (He.asD g n))
def hookM (n : Nat) (L : Lay) (fn : List He.DefD) : PySem.W.Hook where
  α := He.AlD
  obs := fun s => obsMG n L fn s.heap.get?
  val := fun _ => He.valD fn
  says := fun _ h => ∃ K : PySem.W.Frag, K.In h ∧ SaysM L fn K
  of := fun _ _ e => ⟨_, He.frG_in, e⟩
  keeps := fun _ _ _ ⟨K, hK, c⟩ k => ⟨K, PySem.W.Frag.In.keeps hK k, c⟩
theorem obsMG_eq {n : Nat} {fn : List He.DefD} {g : Addr → Option Obj} {s : Shared} (h : ∀ a, g a = s.heap.get? a) : obsMG n L fn g = (hookM n L fn).obs s := by
  have e : g = s.heap.get? := funext h
  rw [e] <;> rfl
theorem says_kb {fn : List He.DefD} (c : SaysM L fn K) : L.kb K = true := (He.ba (show (L.kb K && fn.all fun d => d.ok K) = true from congrArg (fun z : He.AlD => z.1) c)).1
theorem says_def {fn : List He.DefD} (c : SaysM L fn K) {d : He.DefD} {i : Nat} (h : fn[i]? = some d) : ∃ fd, FunD K d.name d.qual d.params d.body d.scope (d.dvs K) (d.kws K) (He.fAd K d.at_) fd := by
  have c2 := (He.ba (show (L.kb K && fn.all fun d => d.ok K) = true from congrArg (fun z : He.AlD => z.1) c)).2
  have e : fn.map (fun d => He.fnW K d.at_) = fn.map He.DefD.val := congrArg (fun z : He.AlD => z.2) c
  have e2 : (fn.map fun d => He.fnW K d.at_)[i]? = (fn.map He.DefD.val)[i]? := by rw [e]
  rw [List.getElem?_map, List.getElem?_map, h] at e2
  exact He.DefD.funD (Option.some.inj e2) (List.all_eq_true.mp c2 d (List.mem_of_getElem? h))
theorem defsOk_at : ∀ {f : Nat} {xs : List DefL}, defsOk L p f xs = true → ∀ {i : Nat} {x : DefL}, xs[i]? = some x → x.ok L p (f + i) = true
  | _, [], _, _, _, h => by cases h
  | f, y :: ys, h, 0, x, e => by
    simp only [defsOk, Bool.and_eq_true] at h
    cases e
    exact h.1
  | f, y :: ys, h, i + 1, x, e => by
    simp only [defsOk, Bool.and_eq_true] at h
    have := defsOk_at h.2 (i := i) (by simpa using e)
    rw [show f + (i + 1) = f + 1 + i by omega]
    exact this
theorem exsOk_at : ∀ {es : List (Nat × List Nat)} {xs : List DefL}, exsOk L es xs = true → ∀ {e : Nat × List Nat}, e ∈ es → ∃ (i : Nat) (x : DefL), xs[i]? = some x ∧ exOk L e.1 e.2 x = true
  | [], _, _, _, h => by cases h
  | _ :: _, [], h, _, _ => by simp [exsOk] at h
  | e0 :: es, x0 :: xs, h, e, he => by
    simp only [exsOk, Bool.and_eq_true] at h
    rcases List.mem_cons.mp he with rfl | he
    · exact ⟨0, x0, rfl, h.1⟩
    · obtain ⟨i, x, e1, e2⟩ := exsOk_at h.2 he
      exact ⟨i + 1, x, by simpa using e1, e2⟩
theorem allBind_at : ∀ {xs : List DefL}, AllBind xs → ∀ {i : Nat} {x : DefL}, xs[i]? = some x → BindL x
  | [], _, _, _, h => by cases h
  | _ :: _, h, 0, _, e => by cases e; exact h.1
  | _ :: _, h, i + 1, _, e => allBind_at h.2 (i := i) (by simpa using e)
theorem fns_at {xs ys : List DefL} {i : Nat} {x : DefL} (e : xs[i]? = some x) : ((xs ++ ys).map (·.d))[i]? = some x.d := by
  rw [List.getElem?_map, List.getElem?_append_left (getE_lt e), e]; rfl
theorem fns_at2 {xs ys : List DefL} {i : Nat} {x : DefL} (e : ys[i]? = some x) : ((xs ++ ys).map (·.d))[xs.length + i]? = some x.d := by
  rw [List.getElem?_map, List.getElem?_append_right (by omega), show xs.length + i - xs.length = i by omega, e]; rfl
/-- all defs of a text, at any depth -/
theorem fx_text {P : Program} {w : World} {mg : Str → Option Value} {base : Heap} {defs exs : List DefL} (hT : p.T = L.B.T) (hs : L.st = true) (hlen : L.G.par.length = defs.length) (hd : defsOk L p 0 defs = true) (he : exsOk L L.B.exfs exs = true) (bd : AllBind defs) (be : AllBind exs)
    (c : SaysM L ((defs ++ exs).map (·.d)) K) (KX : K.In base) (hG : base.Ns mainGlobals mg) (n : Nat) : Fx P w K mg base L.G (L.nm K) p.T (callN p n) (2 * n + 1) := by
  have F0 : Fx0 P w K mg base L.G (L.nm K) p.T := by
    rw [hT]
    refine fx0_of KX hG hs (says_kb c) fun c0 fs hm => ?_
    obtain ⟨i, x, e1, e2⟩ := exsOk_at he hm
    obtain ⟨fd, F⟩ := says_def c (fns_at2 (xs := defs) e1)
    exact ex_of e2 (allBind_at be e1) F
  refine fx_all F0 (fun f hf => ?_) n
  obtain ⟨x, ex⟩ := getE_some (l := defs) (i := f) (by omega)
  obtain ⟨fd, F⟩ := says_def c (fns_at (ys := exs) ex)
  have ok := defsOk_at hd ex
  rw [Nat.zero_add] at ok
  obtain ⟨e1, D⟩ := def_of ok (allBind_at bd ex) F
  exact ⟨x.ps, fd, e1, D⟩
end
/-- THE END: a law's walk from its run in the interpreter -/
theorem walk_mp {l : PySem.W.OpenLaw} {n nh D fl : Nat} {q : Program} {loose : List Str} {XP : (Str → Option Value) → Heap → Prop} {d : DefRec} {L : Lay} {p : Pg} {defs exs : List DefL} {lx : DefL}
    (hn : l.most = some n) (hn2 : n ≤ sizeLine) (hdf : d.params.defaults = []) (hr : Room (2 * D + 3) callerA) (hT : p.T = L.B.T) (hs : L.st = true) (hlen : L.G.par.length = defs.length) (hd : defsOk L p 0 defs = true) (he : exsOk L L.B.exfs exs = true) (bd : AllBind defs) (be : AllBind exs)
    (hl : L.G.gf.lookup d.name = some fl) (hlx : defs[fl]? = some lx) (hps : lx.ps.length = 1) (hlxd : lx.d.dfl.isEmpty = true) (run : ∀ ns : List Int, ns.length ≤ n → (callN p (D + 1) fl [.ref 0] [.frz (ns.map .int)]).yes = true) :
    PySem.W.WalkO q loose XP (hookM nh L ((defs ++ exs).map (·.d))).says l.row.toRowW d [] (fun f vs => PySem.call f vs) := by
  refine Att.attach_call hn hdf fun w s₀ s₁ mg mb fa o pm cd doc a vs ns G Y ho hd' hcd hmg hobj hints hlen' hg => ?_
  obtain ⟨K, KX, c⟩ := Y
  have FX : ∀ base : Heap, K.In base → base.Ns mainGlobals mg → Fx l.prog w K mg base L.G (L.nm K) p.T (callN p D) (2 * D + 1) := fun base kb kg => fx_text hT hs hlen hd he bd be c kb kg D
  have F1 := FX s₁.heap KX G.T.g
  have efa : fa = (L.nm K).fa fl := by
    have := (F1.gf d.name fl hl).2
    rw [hmg] at this
    cases this
    rfl
  obtain ⟨fd, F⟩ := says_def c (fns_at (ys := exs) hlx)
  have ok := defsOk_at hd hlx
  rw [Nat.zero_add] at ok
  obtain ⟨e1, DO⟩ := def_of ok (allBind_at bd hlx) F
  obtain ⟨x, hx⟩ : ∃ x, lx.ps = [x] := by
    match h : lx.ps, hps with
    | [x], _ => exact ⟨x, rfl⟩
  have one : ∀ base : Heap, K.In base → base.Ns mainGlobals mg → FnOk l.prog w K mg base (L2.CX l.prog w) (2 * D + 3) fa fd [x] (spF K (L.nm K) p.T (callN p (D + 1)) fl 1) := fun base kb kg => by
    have z := def_ok (FX base kb kg) DO
    rw [hx, ← efa] at z
    exact z
  refine law_call (sp := spF K (L.nm K) p.T (callN p (D + 1)) fl 1) (x := x) KX G.T.g G.T.b G.T.builtins G.T.nolimit hg hobj hints (Nat.le_trans hlen' hn2) hr one (fun s u => ?_) (fun H hO hS => ⟨rfl, ?_⟩) fun H e s' ⟨_, _, _, _, _, _, _, _, _, _, _, _, z⟩ => z
  · have h5 : lx.d.kwd.isEmpty = true := by
      unfold DefL.ok at ok
      simp only [Bool.and_eq_true] at ok
      exact ok.1.1.1.1.2
    obtain ⟨_, kV, doc, pm, an, cdv, ct, e9⟩ := fd_form hlxd h5 F
    have := (allBind_at bd hlx).bp hlxd kV doc pm an cdv ct [u] (by rw [hx]; rfl)
    rw [hx] at this
    rw [e9]
    exact .of_eq this
  · have r := run ns hlen'
    have hf : ∃ o, H a = some (.frz o (.lst (ns.map V.int))) := by
      rcases hS with (z | z) | ⟨o, its, m, z, z2, _⟩
      · rcases hO a with e | ⟨o, xs, e⟩ <;> rw [e] at z <;> cases z
      · exact z
      · exact absurd z2 (no_list (says_kb c) z)
    obtain ⟨o, ho⟩ := hf
    have rl : ∀ l : List Int, RelWs K (L.nm K) [a] H (l.map .int) (l.map V.int) := by
      intro l
      induction l with
      | nil => exact RelWs.nil
      | cons i l ih => exact RelWs.cons rfl ih
    refine ⟨[a], [.frz (ns.map .int)], [.ref 0], ⟨rfl, by simp, fun r c b e1 e2 => ?_⟩, .cons ⟨a, rfl, rfl⟩ .nil, ?_⟩
    · cases r with
      | zero => cases e1; cases e2; exact ⟨o, _, ho, rl ns⟩
      | succ r => simp at e1
    · cases er : callN p (D + 1) fl [.ref 0] [.frz (ns.map .int)] with
      | stuck => rw [er] at r; cases r
      | raise c vs h => rw [er] at r; cases r
      | ok v h =>
        rw [er] at r
        intro m' H' u s' hr' ru
        cases v with
        | bl b =>
          cases b with
          | true => exact ru
          | false => cases r
        | _ => cases r
end MP
end

section
set_option Elab.async false
set_option linter.all false
set_option maxRecDepth 100000
set_option maxHeartbeats 8000000
/-! MiniPy: walking a run: the equations in a form that simp takes one after another; wishes about a run. -/
namespace MP
open PySem (Str PyData)

/-- marks an argument that simp leaves alone -/
inductive Dm {α : Sort u} (a : α) : Type
  | mk
def R.bnd {α β : Type} (r : R α) (f : α → Hs → R β) (_ : Dm f) : R β := r.bind f
theorem bnd_ok {α β : Type} {v : α} {h : Hs} {f : α → Hs → R β} {d : Dm f} : (R.ok v h).bnd f d = f v h := rfl
theorem bnd_raise {α β : Type} {c : Nat} {vs : List W} {h : Hs} {f : α → Hs → R β} {d : Dm f} : (R.raise c vs h : R α).bnd f d = .raise c vs h := rfl
theorem bnd_stuck {α β : Type} {f : α → Hs → R β} {d : Dm f} : (R.stuck : R α).bnd f d = .stuck := rfl
/-! ### wishes -/
def Sat {α : Type} (r : R α) (Q : α → Hs → Prop) (E : Nat → List W → Hs → Prop) (_ : Dm Q := .mk) (_ : Dm E := .mk) : Prop := match r with
  | .ok v h => Q v h
  | .raise c vs h => E c vs h
  | .stuck => False
section
variable {α β : Type} {r : R α} {Q Q' : α → Hs → Prop} {E E' : Nat → List W → Hs → Prop} {v : α} {h : Hs}
theorem sat_ok : Sat (.ok v h) Q E = Q v h := rfl
theorem sat_raise {c : Nat} {vs : List W} : Sat (.raise c vs h : R α) Q E = E c vs h := rfl
theorem sat_stuck : Sat (.stuck : R α) Q E = False := rfl
theorem sat_bind {f : α → Hs → R β} {d : Dm f} {Q : β → Hs → Prop} (h : Sat r (fun v h1 => Sat (f v h1) Q E) E) : Sat (r.bnd f d) Q E := by cases r <;> exact h
theorem Sat.mono (s : Sat r Q E) (q : ∀ v h, Q v h → Q' v h) (e : ∀ c vs h, E c vs h → E' c vs h) : Sat r Q' E' := by
  cases r with
  | ok v h => exact q _ _ s
  | raise c vs h => exact e _ _ _ s
  | stuck => exact s
theorem sat_call {f : α → Hs → R β} {d : Dm f} {Q : β → Hs → Prop} (s : Sat r Q' E') (q : ∀ v h, Q' v h → Sat (f v h) Q E) (e : ∀ c vs h, E' c vs h → E c vs h) : Sat (r.bnd f d) Q E := sat_bind (s.mono q e)
theorem sat_run (s : Sat r Q E) : (∃ v h, r = .ok v h ∧ Q v h) ∨ ∃ c vs h, r = .raise c vs h ∧ E c vs h := by
  cases r with
  | ok v h => exact .inl ⟨v, h, rfl, s⟩
  | raise c vs h => exact .inr ⟨c, vs, h, rfl, s⟩
  | stuck => exact s.elim
end
/-- nothing is raised -/
abbrev NoE : Nat → List W → Hs → Prop := fun _ _ _ => False
theorem sat_yes {r : R W} (s : Sat r (fun w _ => w = .bl true) NoE) : r.yes = true := by
  rcases sat_run s with ⟨v, h, rfl, rfl⟩ | ⟨_, _, _, _, z⟩
  · rfl
  · exact z.elim

/-! ### forms -/
def W.tst {α : Type} (x : W) (A B : R α) : R α := match x with
  | .bl true => A
  | .bl false => B
  | _ => .stuck
theorem tst_t {α : Type} {A B : R α} : (W.bl true).tst A B = A := rfl
theorem tst_f {α : Type} {A B : R α} : (W.bl false).tst A B = B := rfl
theorem tst_bl {α : Type} {p : Bool} {A B : R α} : (W.bl p).tst A B = if p = true then A else B := by cases p <;> rfl
def W.nt (x : W) (h : Hs) : R W := match x with
  | .bl b => .ok (.bl (!b)) h
  | _ => .stuck
theorem nt_bl {b : Bool} {h : Hs} : (W.bl b).nt h = .ok (.bl (!b)) h := rfl
def W.ng (x : W) (h : Hs) : R W := match x with
  | .int i => .ok (.int (-i)) h
  | _ => .stuck
theorem ng_int {i : Int} {h : Hs} : (W.int i).ng h = .ok (.int (-i)) h := rfl
def vAt (env : Env) (i : Nat) : Option W := (env[i]?).join
theorem vAt_0 {x : Option W} {l : Env} : vAt (x :: l) 0 = x := by cases x <;> rfl
theorem vAt_s {x : Option W} {l : Env} {i : Nat} : vAt (x :: l) (i + 1) = vAt l i := by simp [vAt]
theorem opt_some {α : Type} {v : α} {h : Hs} : R.opt h (some v) = .ok v h := rfl
theorem opt_none {α : Type} {h : Hs} : (R.opt h none : R α) = .stuck := rfl
def fldOf (T : Tab) (h : Hs) (f : Nat) (x : W) : R W := match x with
  | .ref r => (match h[r]? with
    | some (.ins c fs) => if T.plain c = true then R.opt h (fs.lookup f) else .stuck
    | _ => .stuck)
  | _ => .stuck
theorem fldOf_ok {T : Tab} {h : Hs} {f r c : Nat} {fs : List (Nat × W)} {w : W} (e : h[r]? = some (.ins c fs)) (p : T.plain c = true) (l : fs.lookup f = some w) : fldOf T h f (.ref r) = .ok w h := by
  unfold fldOf
  simp only [e, p, l, if_true]
  rfl
section
variable (T : Tab) (cal : Nat → List W → Hs → R W)
def cmpV (c : Cm) (x y : W) (h : Hs) : R W := match ownEq h T c x y with
    | some f => (cal f [x, y] h).bind fun w h3 => match w with
      | .bl r => .ok (.bl (r == decide (c = .eq))) h3
      | _ => .stuck
    | none => cmp2 h c x y
def isCk (pos : Bool) (k : Option Bool) (h : Hs) (x : W) : R W := match k with
    | none => .ok (.bl (decide (x = .non) == pos)) h
    | some b => (match x with
      | .bl c => .ok (.bl (decide (c = b) == pos)) h
      | _ => .stuck)
def methOf (x : W) (m : Nat) (h : Hs) (k : Nat → Nat → R W) (_ : Dm k) : R W := match x with
    | .ref r => (match h[r]? with
      | some (.ins c _) => (match T.meth c m with
        | some f => k r f
        | none => .stuck)
      | _ => .stuck)
    | _ => .stuck
end
theorem methOf_ok {T : Tab} {h : Hs} {r c m f : Nat} {fs : List (Nat × W)} {k : Nat → Nat → R W} {d : Dm k} (e : h[r]? = some (.ins c fs)) (l : T.meth c m = some f) : methOf T (.ref r) m h k d = k r f := by
  unfold methOf
  simp only [e, l]
def lstOk {α : Type} (b : Bool) (A : R α) : R α := if b = true then A else .stuck
theorem lstOk_t {α : Type} {A : R α} : lstOk true A = A := rfl
def permI (p : List Nat) (ws : List W) : Option (List W) := p.mapM fun i => ws[i]?
def szOk (n : Nat) (w : W) (h : Hs) : R W := if n ≤ SZ then .ok w h else .stuck
theorem szOk_t {n : Nat} {w : W} {h : Hs} (e : n ≤ SZ) : szOk n w h = .ok w h := if_pos e
def eqSR (h : Hs) (pos : Bool) (x y : Sv) : R W := if gOk x.g h && x.l && y.l then (match eqL h x.items y.items with
    | some c => .ok (.bl (c == pos)) h
    | none => .stuck) else .stuck
section
variable {T : Tab} {cal : Nat → List W → Hs → R W} {env : Env} {h : Hs}
theorem eE_var {i} : evE T cal (.var i) env h = R.opt h (vAt env i) := by
  rw [evE]; unfold vAt
  cases env[i]? with
  | none => rfl
  | some x => cases x <;> rfl
theorem eE_non : evE T cal .non env h = .ok .non h := by rw [evE]
theorem eE_bl {b} : evE T cal (.bl b) env h = .ok (.bl b) h := by rw [evE]
theorem eE_int {i} : evE T cal (.int i) env h = .ok (.int i) h := by rw [evE]
theorem eE_str {i} : evE T cal (.str i) env h = .ok (.str i) h := by rw [evE]
theorem eE_glob {g} : evE T cal (.glob g) env h = R.opt h (T.glob g) := by rw [evE]
theorem eE_op {o a b} : evE T cal (.op o a b) env h = (evE T cal a env h).bnd (fun x h1 => (evE T cal b env h1).bnd (fun y h2 => op2 h2 o x y) .mk) .mk := by rw [evE]; rfl
theorem eE_neg {a} : evE T cal (.neg a) env h = (evE T cal a env h).bnd (fun x h1 => x.ng h1) .mk := by rw [evE]; rfl
theorem eE_cmp {c a b} : evE T cal (.cmp c a b) env h = (evE T cal a env h).bnd (fun x h1 => (evE T cal b env h1).bnd (fun y h2 => cmpV T cal c x y h2) .mk) .mk := by rw [evE]; rfl
theorem eE_chain {a c b d e} : evE T cal (.chain a c b d e) env h = (evE T cal a env h).bnd (fun x h1 => (evE T cal b env h1).bnd (fun y h2 => (cmp2 h2 c x y).bnd (fun r h3 => r.tst ((evE T cal e env h3).bnd (fun z h4 => cmp2 h4 d y z) .mk) (.ok (.bl false) h3)) .mk) .mk) .mk := by rw [evE]; rfl
theorem eE_isC {pos k a} : evE T cal (.isC pos k a) env h = (evE T cal a env h).bnd (fun x h1 => isCk pos k h1 x) .mk := by rw [evE]; cases k <;> rfl
theorem eE_and {a b} : evE T cal (.and a b) env h = (evE T cal a env h).bnd (fun x h1 => x.tst (evE T cal b env h1) (.ok (.bl false) h1)) .mk := by rw [evE]; rfl
theorem eE_or {a b} : evE T cal (.or a b) env h = (evE T cal a env h).bnd (fun x h1 => x.tst (.ok (.bl true) h1) (evE T cal b env h1)) .mk := by rw [evE]; rfl
theorem eE_not {a} : evE T cal (.not a) env h = (evE T cal a env h).bnd (fun x h1 => x.nt h1) .mk := by rw [evE]; rfl
theorem eE_ite {c a b} : evE T cal (.ite c a b) env h = (evE T cal c env h).bnd (fun x h1 => x.tst (evE T cal a env h1) (evE T cal b env h1)) .mk := by rw [evE]; rfl
theorem eE_tup {es} : evE T cal (.tup es) env h = (evEs T cal es env h).bnd (fun ws h1 => szOk ws.length (.tup ws) h1) .mk := by rw [evE]; rfl
theorem eE_idx {a i} : evE T cal (.idx a i) env h = (evE T cal a env h).bnd (fun x h1 => (evE T cal i env h1).bnd (fun y h2 => idx2 h2 x y) .mk) .mk := by rw [evE]; rfl
theorem eE_slc {a lo hi} : evE T cal (.slc a lo hi) env h = (evE T cal a env h).bnd (fun x h1 => (evO T cal lo env h1).bnd (fun y h2 => (evO T cal hi env h2).bnd (fun z h3 => slc2 h3 x y z) .mk) .mk) .mk := by rw [evE]; rfl
theorem eE_fld {a f} : evE T cal (.fld a f) env h = (evE T cal a env h).bnd (fun x h1 => fldOf T h1 f x) .mk := by rw [evE]; rfl
theorem eE_call {f es} : evE T cal (.call f es) env h = (evEs T cal es env h).bnd (fun ws h1 => cal f ws h1) .mk := by rw [evE]; rfl
theorem eE_callK {f p es} : evE T cal (.callK f p es) env h = (evEs T cal es env h).bnd (fun ws h1 => (R.opt h1 (permI p ws)).bnd (fun us h2 => cal f us h2) .mk) .mk := by rw [evE]; rfl
theorem eE_callD {f ds es} : evE T cal (.callD f ds es) env h = (evEs T cal es env h).bnd (fun ws h1 => cal f (ws ++ ds.map .int) h1) .mk := by rw [evE]; rfl
theorem eE_new {c es} : evE T cal (.new c es) env h = (evEs T cal es env h).bnd (fun ws h1 => mkN T cal c ws h1) .mk := by rw [evE]; rfl
theorem eE_newK {c p es} : evE T cal (.newK c p es) env h = (evEs T cal es env h).bnd (fun ws h1 => (R.opt h1 (permI p ws)).bnd (fun us h2 => mkN T cal c us h2) .mk) .mk := by rw [evE]; rfl
theorem eE_meth {a m es} : evE T cal (.meth a m es) env h = (evE T cal a env h).bnd (fun x h1 => methOf T x m h1 (fun r f => (evEs T cal es env h1).bnd (fun ws h2 => cal f (.ref r :: ws) h2) .mk) .mk) .mk := by rw [evE]; rfl
theorem eE_methK {a m p es} : evE T cal (.methK a m p es) env h = (evE T cal a env h).bnd (fun x h1 => methOf T x m h1 (fun r f => (evEs T cal es env h1).bnd (fun ws h2 => (R.opt h2 (permI p ws)).bnd (fun us h3 => cal f (.ref r :: us) h3) .mk) .mk) .mk) .mk := by rw [evE]; rfl
theorem eE_bi {b es} : evE T cal (.bi b es) env h = (evEs T cal es env h).bnd (fun ws h1 => bi1 h1 T b ws) .mk := by rw [evE]; rfl
theorem eE_bm {b a es} : evE T cal (.bm b a es) env h = (evE T cal a env h).bnd (fun x h1 => lstOk (bmK h1 b x) ((evEs T cal es env h1).bnd (fun ws h2 => bm2 h2 b x ws) .mk)) .mk := by rw [evE]; rfl
theorem eE_lb {b s} : evE T cal (.lb b s) env h = (evSq T cal s env h).bnd (fun v h1 => lstOk v.l (lb1 h1 b v.items)) .mk := by rw [evE]; rfl
theorem eE_lst {l} : evE T cal (.lst l) env h = (evL T cal l env h).bnd (fun ws h1 => .ok (.ref h1.length) (h1 ++ [.lst ws])) .mk := by rw [evE]; rfl
theorem eE_eqS {pos a b} : evE T cal (.eqS pos a b) env h = (evSq T cal a env h).bnd (fun x h1 => (evSq T cal b env h1).bnd (fun y h2 => eqSR h2 pos x y) .mk) .mk := by rw [evE]; rfl
theorem eE_inV {pos a d} : evE T cal (.inS pos a (.val d)) env h = (evE T cal a env h).bnd (fun x h1 => (evE T cal d env h1).bnd (fun y h2 => R.opt h2 ((in2 h2 x y).map fun b => .bl (b == pos))) .mk) .mk := by rw [evE]; rfl
theorem eE_inF {pos a l} : evE T cal (.inS pos a (.fresh l)) env h = (evE T cal a env h).bnd (fun x h1 => (evL T cal l env h1).bnd (fun ws h2 => R.opt h2 ((inL x ws).map fun b => .bl (b == pos))) .mk) .mk := by rw [evE]; rfl
theorem eE_dct0 : evE T cal .dct0 env h = .ok (.ref h.length) (h ++ [.dct []]) := by rw [evE]
theorem eEs_nil : evEs T cal .nil env h = .ok [] h := by rw [evEs]
theorem eEs_cons {e es} : evEs T cal (.cons e es) env h = (evE T cal e env h).bnd (fun x h1 => (evEs T cal es env h1).bnd (fun xs h2 => .ok (x :: xs) h2) .mk) .mk := by rw [evEs]; rfl
theorem eQ_val {e} : evSq T cal (.val e) env h = (evE T cal e env h).bnd (fun x h1 => seqOf h1 x) .mk := by rw [evSq]; rfl
theorem eQ_fresh {l} : evSq T cal (.fresh l) env h = (evL T cal l env h).bnd (fun ws h1 => .ok ⟨ws, none, true⟩ h1) .mk := by rw [evSq]; rfl
theorem eR_seq {s} : evSr T cal (.seq s) env h = evSq T cal s env h := by rw [evSr]
theorem eR_rng {es} : evSr T cal (.rng es) env h = (evEs T cal es env h).bnd (fun ws h1 => rngOf h1 ws) .mk := by rw [evSr]; rfl
theorem eC_none : evC T cal .none env h = .ok true h := by rw [evC]
theorem eC_some {e} : evC T cal (.some e) env h = (evE T cal e env h).bnd (fun x h1 => truth h1 x) .mk := by rw [evC]; rfl
theorem eO_none : evO T cal .none env h = .ok none h := by rw [evO]
def oInt (x : W) (h : Hs) : R (Option Int) := match x with
    | .int i => .ok (some i) h
    | _ => .stuck
theorem eO_some {e} : evO T cal (.some e) env h = (evE T cal e env h).bnd (fun x h1 => oInt x h1) .mk := by rw [evO]; rfl
def lsz (ws : List W) (h : Hs) : R (List W) := if ws.length ≤ SZ then .ok ws h else .stuck
theorem lsz_t {ws : List W} {h : Hs} (e : ws.length ≤ SZ) : lsz ws h = .ok ws h := if_pos e
theorem eL_disp {es} : evL T cal (.disp es) env h = (evEs T cal es env h).bnd (fun ws h1 => lsz ws h1) .mk := by rw [evL]; rfl
/-- one turn of a comprehension -/
def cTurn (T : Tab) (cal : Nat → List W → Hs → R W) (e : Ex) (t : Tg) (c : Cnd) (ws : List Nat) (env : Env) (x : W) (h2 : Hs) : R (List W) := match asgTg h2 t x (wipeE env ws) with
      | some e1 => (evC T cal c e1 h2).bind fun b h3 => if b then (evE T cal e e1 h3).bind fun y h4 => .ok [y] h4 else .ok [] h3
      | none => .stuck
def cRun (T : Tab) (cal : Nat → List W → Hs → R W) (e : Ex) (t : Tg) (c : Cnd) (ws : List Nat) (env : Env) (sv : Sv) (h1 : Hs) : R (List W) := if fitL sv.items then noRaise (compGo sv.g (cTurn T cal e t c ws env) sv.items h1) else .stuck
theorem eL_comp {e t s c ws} : evL T cal (.comp e t s c ws) env h = locked (lockOf env h s) (fun h => (evSr T cal s env h).bnd (fun sv h1 => cRun T cal e t c ws env sv h1) .mk) h := by rw [evL]; rfl
def dTurn (T : Tab) (cal : Nat → List W → Hs → R W) (k v : Ex) (t : Tg) (c : Cnd) (ws : List Nat) (env : Env) (x : W) (h2 : Hs) : R (List W) := match asgTg h2 t x (wipeE env ws) with
      | some e1 => (evC T cal c e1 h2).bind fun b h3 => if b then (evE T cal k e1 h3).bind fun kv h4 => (evE T cal v e1 h4).bind fun vv h5 => if kv.key then .ok [.tup [kv, vv]] h5 else .stuck else .ok [] h3
      | none => .stuck
def dRun (T : Tab) (cal : Nat → List W → Hs → R W) (k v : Ex) (t : Tg) (c : Cnd) (ws : List Nat) (env : Env) (sv : Sv) (h1 : Hs) : R W := if fitL sv.items then (noRaise (compGo sv.g (dTurn T cal k v t c ws env) sv.items h1)).bind fun ps h2 => match pairsD ps [] with
        | some kvs => .ok (.ref h2.length) (h2 ++ [.dct kvs])
        | none => .stuck else .stuck
theorem eE_dcomp {k v t s c ws} : evE T cal (.dcomp k v t s c ws) env h = locked (lockOf env h s) (fun h => (evSr T cal s env h).bnd (fun sv h1 => dRun T cal k v t c ws env sv h1) .mk) h := by rw [evE]; rfl
def rngI (ws : List W) (h : Hs) : R (List W) := (rngOf h ws).bind fun v h2 => .ok v.items h2
theorem eL_lrng {es} : evL T cal (.lrng es) env h = (evEs T cal es env h).bnd (fun ws h1 => rngI ws h1) .mk := by rw [evL]; rfl
def itemsW (x : W) (h : Hs) : R (List W) := match x with
    | .ref r => (match h[r]? with
      | some (.dct kvs) => .ok (kvs.map fun p => .tup [p.1, p.2]) h
      | _ => .stuck)
    | _ => .stuck
theorem eL_litems {e} : evL T cal (.litems e) env h = (evE T cal e env h).bnd (fun x h1 => itemsW x h1) .mk := by rw [evL]; rfl
theorem eL_sorted {s} : evL T cal (.sorted s) env h = (evSq T cal s env h).bnd (fun v h1 => lstOk v.l (R.opt h1 ((allI v.items).map fun ns => (sortI ns).map .int))) .mk := by rw [evL]; rfl
theorem eL_sortedSet {s} : evL T cal (.sortedSet s) env h = (evSq T cal s env h).bnd (fun v h1 => lstOk v.l (R.opt h1 ((allI v.items).bind fun ns => if (sortU ns).length < 4000 then some ((sortU ns).map .int) else none))) .mk := by rw [evL]; rfl
def catR (x y : Sv) (h : Hs) : R (List W) := if gOk x.g h && x.lst && y.lst && decide (x.items.length + y.items.length ≤ SZ) then .ok (x.items ++ y.items) h else .stuck
theorem eL_cat {a b} : evL T cal (.cat a b) env h = (evSq T cal a env h).bnd (fun x h1 => (evSq T cal b env h1).bnd (fun y h2 => catR x y h2) .mk) .mk := by rw [evL]; rfl
def repR (x : Sv) (w : W) (h : Hs) : R (List W) := match w with
    | .int n => if gOk x.g h && x.lst && okIx n && decide (x.items.length * n.toNat ≤ SZ) then .ok (List.replicate n.toNat x.items).flatten h else .stuck
    | _ => .stuck
theorem eL_rep {a k} : evL T cal (.rep a k) env h = (evSq T cal a env h).bnd (fun x h1 => (evE T cal k env h1).bnd (fun w h2 => repR x w h2) .mk) .mk := by rw [evL]; rfl
end
/-! ### statements -/
def Fl.sq (fl : Fl) (k : Env → Hs → R Fl) (h : Hs) (_ : Dm k) : R Fl := match fl with
    | .next e1 => k e1 h
    | fl => .ok fl h
theorem sq_next {k : Env → Hs → R Fl} {d : Dm k} {e : Env} {h : Hs} : (Fl.next e).sq k h d = k e h := rfl
theorem sq_ret {k : Env → Hs → R Fl} {d : Dm k} {w : W} {h : Hs} : (Fl.ret w).sq k h d = .ok (.ret w) h := rfl
theorem sq_brk {k : Env → Hs → R Fl} {d : Dm k} {e : Env} {h : Hs} : (Fl.brk e).sq k h d = .ok (.brk e) h := rfl
theorem sq_cont {k : Env → Hs → R Fl} {d : Dm k} {e : Env} {h : Hs} : (Fl.cont e).sq k h d = .ok (.cont e) h := rfl
def envR (o : Option Env) (h : Hs) : R Fl := match o with
    | some e1 => .ok (.next e1) h
    | none => .stuck
theorem envR_some {e : Env} {h : Hs} : envR (some e) h = .ok (.next e) h := rfl
def hsR (env : Env) (o : Option Hs) : R Fl := match o with
    | some h2 => .ok (.next env) h2
    | none => .stuck
theorem hsR_some {e : Env} {h : Hs} : hsR e (some h) = .ok (.next e) h := rfl
def fldPut (T : Tab) (env : Env) (f : Nat) (w x : W) (h2 : Hs) : R Fl := match x with
    | .ref r => (match h2[r]? with
      | some (.ins c fs) => if fs.length < 900 ∧ T.plain c = true then .ok (.next env) (h2.set r (.ins c (fPut f w fs))) else .stuck
      | _ => .stuck)
    | _ => .stuck
theorem fldPut_ok {T : Tab} {env : Env} {h : Hs} {f r c : Nat} {fs : List (Nat × W)} {w : W} (e : h[r]? = some (.ins c fs)) (p : T.plain c = true) (l : fs.length < 900) : fldPut T env f w (.ref r) h = .ok (.next env) (h.set r (.ins c (fPut f w fs))) := by
  unfold fldPut
  simp only [e, p, l, and_self, if_true]
def idxPut (env : Env) (w x k : W) (h3 : Hs) : R Fl := match x with
    | .ref r => (match h3[r]? with
      | some (.lst xs) => (match k with
        | .int j => (match L2.ixN xs.length j with
          | some n => .ok (.next env) (h3.set r (.lst (xs.set n w)))
          | none => .stuck)
        | _ => .stuck)
      | some (.dct kvs) => if k.key && decide (kvs.length < SZ) then .ok (.next env) (h3.set r (.dct (dPut k w kvs))) else .stuck
      | _ => .stuck)
    | _ => .stuck
theorem idxPut_lst {env : Env} {h : Hs} {r n : Nat} {j : Int} {xs : List W} {w : W} (e : h[r]? = some (.lst xs)) (l : L2.ixN xs.length j = some n) : idxPut env w (.ref r) (.int j) h = .ok (.next env) (h.set r (.lst (xs.set n w))) := by
  unfold idxPut
  simp only [e, l]
theorem idxPut_dct {env : Env} {h : Hs} {r : Nat} {kvs : List (W × W)} {w k : W} (e : h[r]? = some (.dct kvs)) (l : k.key = true) (z : kvs.length < SZ) : idxPut env w (.ref r) k h = .ok (.next env) (h.set r (.dct (dPut k w kvs))) := by
  unfold idxPut
  simp only [e, l, z, decide_true, Bool.and_self, if_true]
def raiseR (T : Tab) (c : Nat) (k : (List W → Hs → R Fl) → R Fl) : R Fl := match T.exf c with
    | some fs => k fun ws h1 => if ws.length = fs.length then .raise c ws h1 else .stuck
    | none => .stuck
section
variable {T : Tab} {cal : Nat → List W → Hs → R W} {wf : Nat} {env : Env} {h : Hs}
theorem eS_asg {t e} : evS T cal wf (.asg t e) env h = (evE T cal e env h).bnd (fun w h1 => envR (asgTg h1 t w env) h1) .mk := by rw [evS]; rfl
theorem eS_asgT {is es} : evS T cal wf (.asgT is es) env h = (evEs T cal es env h).bnd (fun ws h1 => envR (setAll is ws env) h1) .mk := by rw [evS]; rfl
theorem eS_fldT {is fs es} : evS T cal wf (.fldT is fs es) env h = (evEs T cal es env h).bnd (fun ws h1 => hsR env (putFs T env is fs ws h1)) .mk := by rw [evS]; rfl
theorem eS_fldSet {o f e} : evS T cal wf (.fldSet o f e) env h = (evE T cal e env h).bnd (fun w h1 => (evE T cal o env h1).bnd (fun x h2 => fldPut T env f w x h2) .mk) .mk := by rw [evS]; rfl
theorem eS_idxSet {o i e} : evS T cal wf (.idxSet o i e) env h = (evE T cal e env h).bnd (fun w h1 => (evE T cal o env h1).bnd (fun x h2 => (evE T cal i env h2).bnd (fun k h3 => idxPut env w x k h3) .mk) .mk) .mk := by rw [evS]; rfl
theorem eS_expr {e} : evS T cal wf (.expr e) env h = (evE T cal e env h).bnd (fun _ h1 => .ok (.next env) h1) .mk := by rw [evS]; rfl
theorem eS_ret {e} : evS T cal wf (.ret e) env h = (evE T cal e env h).bnd (fun w h1 => .ok (.ret w) h1) .mk := by rw [evS]; rfl
theorem eS_retN : evS T cal wf .retN env h = .ok (.ret .non) h := by rw [evS]
theorem eS_pass : evS T cal wf .pass env h = .ok (.next env) h := by rw [evS]
theorem eS_brk : evS T cal wf .brk env h = .ok (.brk env) h := by rw [evS]
theorem eS_cont : evS T cal wf .cont env h = .ok (.cont env) h := by rw [evS]
theorem eS_raise {c es fs} (e : T.exf c = some fs) : evS T cal wf (.raise c es) env h = (evEs T cal es env h).bnd (fun ws h1 => if ws.length = fs.length then .raise c ws h1 else .stuck) .mk := by rw [evS, e]; rfl
theorem eS_ite {c a b} : evS T cal wf (.ite c a b) env h = (evE T cal c env h).bnd (fun x h1 => x.tst (evSs T cal wf a env h1) (evSs T cal wf b env h1)) .mk := by rw [evS]; rfl
def fRun (T : Tab) (cal : Nat → List W → Hs → R W) (wf : Nat) (t : Tg) (b : Sts) (env : Env) (sv : Sv) (h1 : Hs) : R Fl := forGo sv.g t (fun e1 h2 => evSs T cal wf b e1 h2) sv.items env h1
theorem eS_for {t s b} : evS T cal wf (.for t s b) env h = locked (lockOf env h s) (fun h => (evSr T cal s env h).bnd (fun sv h1 => fRun T cal wf t b env sv h1) .mk) h := by rw [evS]; rfl
def wRun (T : Tab) (cal : Nat → List W → Hs → R W) (wf : Nat) (c : Ex) (b : Sts) (n : Nat) (env : Env) (h : Hs) : R Fl := whileGo (fun e1 h1 => evE T cal c e1 h1) (fun e1 h1 => evSs T cal wf b e1 h1) n env h
theorem eS_while {c b} : evS T cal wf (.while c b) env h = wRun T cal wf c b wf env h := by rw [evS]; rfl
def tryX (T : Tab) (hs : List Hd) (r : R Fl) : R Fl := match r with
    | .raise c vs h1 => (match hs.find? fun d => T.sub c d.c with
      | some d => (match d.out.mapM (heV T c vs h1) with
        | some ws => .ok (.ret (.ref h1.length)) (h1 ++ [.lst ws])
        | none => .stuck)
      | none => .raise c vs h1)
    | r => r
theorem eS_try {b hs} : evS T cal wf (.try b hs) env h = tryX T hs (evSs T cal wf b env h) := by
  rw [evS]; unfold tryX; cases evSs T cal wf b env h <;> rfl
theorem eSs_nil : evSs T cal wf .nil env h = .ok (.next env) h := by rw [evSs]
theorem eSs_cons {s r} : evSs T cal wf (.cons s r) env h = (evS T cal wf s env h).bnd (fun fl h1 => fl.sq (fun e1 h2 => evSs T cal wf r e1 h2) h1 .mk) .mk := by
  rw [evSs]
  exact congrArg (R.bind _) (funext fun fl => funext fun h1 => by cases fl <;> rfl)
end
theorem tryX_ok {T : Tab} {hs : List Hd} {fl : Fl} {h : Hs} : tryX T hs (.ok fl h) = .ok fl h := rfl
/-! ### calls -/
theorem callN_eq {P : Pg} {n f : Nat} {d : Fn} {ws : List W} {h : Hs} (e : P.fns[f]? = some d) (l : ws.length = d.np) : callN P (n + 1) f ws h = fin h.length (evSs P.T (callN P n) P.wf d.body (start d.ns ws) h) := by
  rw [callN, e]
  exact if_pos l
theorem fin_ret {n : Nat} {w : W} {h : Hs} : fin n (.ok (.ret w) h) = .ok w (cutH n [w] h) := rfl
theorem fin_next {n : Nat} {e : Env} {h : Hs} : fin n (.ok (.next e) h) = .ok .non (cutH n [] h) := rfl
theorem fin_raise {n : Nat} {c : Nat} {vs : List W} {h : Hs} : fin n (.raise c vs h) = .raise c vs (cutH n vs h) := rfl
theorem cut_self {ws : List W} {h : Hs} : cutH h.length ws h = h := if_pos (Nat.le_refl _)
theorem sat_fin {n : Nat} {r : R Fl} {Q : W → Hs → Prop} {E : Nat → List W → Hs → Prop} (s : Sat r (fun fl h => match fl with | .ret w => Q w (cutH n [w] h) | .next _ => Q .non (cutH n [] h) | _ => False) (fun c vs h => E c vs (cutH n vs h))) : Sat (fin n r) Q E := by
  cases r with
  | stuck => exact s
  | raise c vs h => exact s
  | ok fl h => cases fl <;> first | exact s | exact (show False from s).elim
end MP
end

section
set_option Elab.async false
set_option linter.all false
set_option maxRecDepth 100000
set_option maxHeartbeats 8000000
/-! MiniPy: walking a run: the equations as one bundle; comprehensions, loops, lists of wI. -/
namespace MP
open PySem (Str PyData)

/-! ### slots -/
def setV : Env → Nat → W → Option Env
  | [], _, _ => none
  | _ :: l, 0, w => some (some w :: l)
  | x :: l, i + 1, w => (setV l i w).map (x :: ·)
theorem setV_eq : ∀ (env : Env) (i : Nat) (w : W), setV env i w = if i < env.length then some (env.set i (some w)) else none
  | [], i, w => by simp [setV]
  | _ :: l, 0, w => by simp [setV]
  | x :: l, i + 1, w => by
    rw [setV, setV_eq l i w]
    simp only [List.length_cons, Nat.add_lt_add_iff_right, List.set_cons_succ]
    split <;> rfl
theorem setV_0 {x : Option W} {l : Env} {w : W} : setV (x :: l) 0 w = some (some w :: l) := rfl
theorem setV_s {x : Option W} {l : Env} {i : Nat} {w : W} : setV (x :: l) (i + 1) w = (setV l i w).map (x :: ·) := rfl
theorem asg_name {h : Hs} {i : Nat} {w : W} {env : Env} : asgTg h (.name i) w env = setV env i w := by rw [asgTg, setV_eq]
theorem asg_nilT {h : Hs} {env : Env} : asgTg h .nil (.tup []) env = some env := rfl
theorem asg_consT {h : Hs} {t r : Tg} {w : W} {ws : List W} {env : Env} : asgTg h (.cons t r) (.tup (w :: ws)) env = (asgTg h t w env).bind (asgTg h r (.tup ws)) := rfl
theorem setAll_nil {env : Env} : setAll [] [] env = some env := rfl
theorem setAll_cons {i : Nat} {is : List Nat} {w : W} {ws : List W} {env : Env} : setAll (i :: is) (w :: ws) env = (setV env i w).bind (setAll is ws) := by
  rw [setAll, setV_eq]
  split <;> rfl
theorem wipe_nil {env : Env} : wipeE env [] = env := rfl
theorem wipe_cons {env : Env} {v : Nat} {vs : List Nat} : wipeE env (v :: vs) = (wipeE env vs).set v none := rfl
/-! ### a walked dict is locked; nothing else is -/
theorem lock_rng {env : Env} {h : Hs} {es : Exs} : lockOf env h (.rng es) = none := rfl
theorem lock_fresh {env : Env} {h : Hs} {l : Le} : lockOf env h (.seq (.fresh l)) = none := rfl
def lockV (h : Hs) (x : Option W) : Option (Nat × List (W × W)) := match x with
  | some (.ref r) => (match h[r]? with | some (.dct kvs) => some (r, kvs) | _ => none)
  | _ => none
theorem lock_var {env : Env} {h : Hs} {i : Nat} : lockOf env h (.seq (.val (.var i))) = lockV h (vAt env i) := by
  unfold lockV vAt
  rw [lockOf]
  cases env[i]? with
  | none => rfl
  | some x =>
    cases x with
    | none => rfl
    | some w => cases w <;> rfl
theorem lockV_tup {h : Hs} {ws : List W} : lockV h (some (.tup ws)) = none := rfl
theorem lockV_lst {h : Hs} {r : Nat} {ws : List W} (e : h[r]? = some (.lst ws)) : lockV h (some (.ref r)) = none := by unfold lockV; dsimp only; rw [e]
theorem lockV_frz {h : Hs} {r : Nat} {ws : List W} (e : h[r]? = some (.frz ws)) : lockV h (some (.ref r)) = none := by unfold lockV; dsimp only; rw [e]
theorem locked_none {α : Type} {f : Hs → R α} {h : Hs} : locked none f h = f h := rfl
theorem locked_some {α : Type} {r : Nat} {kvs : List (W × W)} {f : Hs → R α} {h : Hs} {v : α} (e : f (h.set r (.fdc kvs)) = .ok v (h.set r (.fdc kvs))) (k : h[r]? = some (.dct kvs)) : locked (some (r, kvs)) f h = .ok v h := by
  have lt : r < h.length := by
    rcases Nat.lt_or_ge r h.length with k' | k'
    · exact k'
    · rw [List.getElem?_eq_none k'] at k; cases k
  unfold locked
  dsimp only
  rw [e]
  show (if (h.set r (.fdc kvs))[r]? = some (.fdc kvs) then R.ok v ((h.set r (.fdc kvs)).set r (.dct kvs)) else .stuck) = _
  rw [if_pos (by rw [List.getElem?_set_self lt]), List.set_set]
  have : h.set r (.dct kvs) = h := by
    apply List.ext_getElem?
    intro i
    by_cases hi : r = i
    · subst hi; rw [List.getElem?_set_self lt, k]
    · rw [List.getElem?_set_ne hi]
  rw [this]
/-! ### lists of numbers, of bools -/
def wI (l : List Int) : List W := l.map .int
theorem wI_nil : wI [] = [] := rfl
theorem wI_cons {i : Int} {l : List Int} : wI (i :: l) = .int i :: wI l := rfl
theorem wI_len {l : List Int} : (wI l).length = l.length := List.length_map _
theorem wI_app {l m : List Int} : wI l ++ wI m = wI (l ++ m) := (List.map_append ..).symm
theorem allI_wI : ∀ {l : List Int}, allI (wI l) = some l
  | [] => rfl
  | i :: l => by rw [wI_cons, allI, allI_wI]; rfl
theorem allB_bls : ∀ {l : List Bool}, allB (l.map .bl) = some l
  | [] => rfl
  | i :: l => by rw [List.map_cons, allB, allB_bls]; rfl
/-- lo, lo + 1, .. -/
def iot (lo : Int) : Nat → List Int
  | 0 => []
  | n + 1 => lo :: iot (lo + 1) n
theorem rngL_iot : ∀ (n : Nat) (lo : Int), rngL lo n = wI (iot lo n)
  | 0, _ => rfl
  | n + 1, lo => by rw [rngL, iot, wI_cons, rngL_iot n]
theorem iot_len : ∀ (n : Nat) (lo : Int), (iot lo n).length = n
  | 0, _ => rfl
  | n + 1, lo => by rw [iot, List.length_cons, iot_len n]
theorem iot_mem : ∀ {n : Nat} {lo i : Int}, i ∈ iot lo n ↔ lo ≤ i ∧ i < lo + n
  | 0, lo, i => by simp [iot]
  | n + 1, lo, i => by
    rw [iot, List.mem_cons, iot_mem]
    omega
theorem iot_get : ∀ {n : Nat} {lo : Int} {k : Nat}, k < n → (iot lo n)[k]? = some (lo + k)
  | 0, _, _, h => by omega
  | n + 1, lo, 0, _ => by simp [iot]
  | n + 1, lo, k + 1, h => by
    rw [iot, List.getElem?_cons_succ, iot_get (by omega)]
    congr 1
    omega
theorem iot_pw : ∀ (n : Nat) (lo : Int), (iot lo n).Pairwise (· < ·)
  | 0, _ => List.Pairwise.nil
  | n + 1, lo => List.pairwise_cons.mpr ⟨fun x hx => by have := iot_mem.mp hx; omega, iot_pw n (lo + 1)⟩
theorem iot_snoc : ∀ (n : Nat) (lo : Int), iot lo (n + 1) = iot lo n ++ [lo + n]
  | 0, lo => by simp [iot]
  | n + 1, lo => by
    rw [iot, iot_snoc n (lo + 1), iot]
    simp only [List.cons_append]
    congr 2
    simp
    omega
/-! ### comprehensions -/
theorem compGo_pure {g : Option (Nat × Cell)} {f : W → Hs → R (List W)} {h : Hs} {F : W → List W} (hg : gOk g h = true) : ∀ {items : List W}, (∀ x ∈ items, f x h = .ok (F x) h) → compGo g f items h = .ok (items.flatMap F) h
  | [], _ => by rw [compGo, if_pos hg]; rfl
  | x :: xs, hf => by
    rw [compGo, if_pos hg, hf x (List.mem_cons_self ..), bind_ok, compGo_pure hg (fun y hy => hf y (List.mem_cons_of_mem _ hy)), bind_ok]
    rfl
section
variable {T : Tab} {cal : Nat → List W → Hs → R W} {e k v : Ex} {t : Tg} {c : Cnd} {ws : List Nat} {env : Env} {items : List W} {g : Option (Nat × Cell)} {l : Bool} {h : Hs} {F : W → List W}
theorem cRun_pure (F : W → List W) (hz : items.length ≤ SZ) (hg : gOk g h = true) (hf : ∀ x ∈ items, cTurn T cal e t c ws env x h = .ok (F x) h) : cRun T cal e t c ws env ⟨items, g, l⟩ h = .ok (items.flatMap F) h := by
  unfold cRun
  rw [if_pos (by unfold fitL; simpa using hz), compGo_pure hg hf]
  rfl
/-- over wI, all kept -/
theorem cRun_map {is : List Int} (F : Int → W) (hz : is.length ≤ SZ) (hg : gOk g h = true) (hf : ∀ i ∈ is, cTurn T cal e t c ws env (.int i) h = .ok [F i] h) : cRun T cal e t c ws env ⟨wI is, g, l⟩ h = .ok (is.map F) h := by
  have : (wI is).flatMap (fun x => match x with | .int i => [F i] | _ => []) = is.map F := by
    clear hz hf
    induction is with
    | nil => rfl
    | cons i is ih => rw [wI_cons, List.flatMap_cons, ih]; rfl
  rw [← this]
  refine cRun_pure _ (by rw [wI_len]; exact hz) hg fun x hx => ?_
  obtain ⟨i, hi, rfl⟩ := List.mem_map.mp hx
  exact hf i hi
/-- over wI, some kept -/
theorem cRun_filter {is : List Int} (p : Int → Bool) (hz : is.length ≤ SZ) (hg : gOk g h = true) (hf : ∀ i ∈ is, cTurn T cal e t c ws env (.int i) h = .ok (if p i = true then [.int i] else []) h) : cRun T cal e t c ws env ⟨wI is, g, l⟩ h = .ok (wI (is.filter p)) h := by
  have : (wI is).flatMap (fun x => match x with | .int i => if p i = true then [.int i] else [] | _ => []) = wI (is.filter p) := by
    clear hz hf
    induction is with
    | nil => rfl
    | cons i is ih =>
      rw [wI_cons, List.flatMap_cons, ih, List.filter_cons]
      by_cases hp : p i = true
      · simp [hp, wI]
      · simp [hp, wI]
  rw [← this]
  refine cRun_pure _ (by rw [wI_len]; exact hz) hg fun x hx => ?_
  obtain ⟨i, hi, rfl⟩ := List.mem_map.mp hx
  exact hf i hi
theorem cRun_none {is : List Int} (hz : is.length ≤ SZ) (hg : gOk g h = true) (hf : ∀ i ∈ is, cTurn T cal e t c ws env (.int i) h = .ok [] h) : cRun T cal e t c ws env ⟨wI is, g, l⟩ h = .ok [] h := by
  have := cRun_filter (l := l) (fun _ => false) hz hg (T := T) (cal := cal) (e := e) (t := t) (c := c) (ws := ws) (env := env) (is := is) fun i hi => by rw [hf i hi]; rfl
  rw [this]
  simp [wI]
end
def cT1 {α : Type} (o : Option Env) (k : Env → R α) (_ : Dm k) : R α := match o with
  | some e1 => k e1
  | none => .stuck
theorem cT1_some {α : Type} {e : Env} {k : Env → R α} {d : Dm k} : cT1 (some e) k d = k e := rfl
def condL (b : Bool) (A : R (List W)) (h : Hs) : R (List W) := if b = true then A else .ok [] h
theorem condL_t {A : R (List W)} {h : Hs} : condL true A h = A := rfl
theorem condL_f {A : R (List W)} {h : Hs} : condL false A h = .ok [] h := rfl
theorem condL_ok {b : Bool} {ws : List W} {h : Hs} : condL b (.ok ws h) h = .ok (if b = true then ws else []) h := by cases b <;> rfl
def keyP (kv vv : W) (h5 : Hs) : R (List W) := if kv.key then .ok [.tup [kv, vv]] h5 else .stuck
theorem keyP_int {i : Int} {w : W} {h : Hs} : keyP (.int i) w h = .ok [.tup [.int i, w]] h := rfl
theorem keyP_str {i : Str} {w : W} {h : Hs} : keyP (.str i) w h = .ok [.tup [.str i, w]] h := rfl
theorem truth_bl {h : Hs} {b : Bool} : truth h (.bl b) = .ok b h := rfl
section
variable {T : Tab} {cal : Nat → List W → Hs → R W} {e k v : Ex} {t : Tg} {c : Cnd} {ws : List Nat} {env : Env} {x : W} {h : Hs}
theorem cTurn_eq : cTurn T cal e t c ws env x h = cT1 (asgTg h t x (wipeE env ws)) (fun e1 => (evC T cal c e1 h).bnd (fun b h3 => condL b ((evE T cal e e1 h3).bnd (fun y h4 => .ok [y] h4) .mk) h3) .mk) .mk := by
  unfold cTurn cT1
  cases asgTg h t x (wipeE env ws) <;> rfl
theorem dTurn_eq : dTurn T cal k v t c ws env x h = cT1 (asgTg h t x (wipeE env ws)) (fun e1 => (evC T cal c e1 h).bnd (fun b h3 => condL b ((evE T cal k e1 h3).bnd (fun kv h4 => (evE T cal v e1 h4).bnd (fun vv h5 => keyP kv vv h5) .mk) .mk) h3) .mk) .mk := by
  unfold dTurn cT1
  cases asgTg h t x (wipeE env ws) <;> rfl
end
/-! ### loops -/
theorem sat_for {α : Type} {g : Option (Nat × Cell)} {t : Tg} {f : Env → Hs → R Fl} {Q : Fl → Hs → Prop} {E : Nat → List W → Hs → Prop} (I : List W → Env → Hs → Prop) (hg : ∀ xs env h, I xs env h → gOk g h = true)
    (step : ∀ x xs env h, I (x :: xs) env h → ∃ e1, asgTg h t x env = some e1 ∧ Sat (f e1 h) (fun fl h1 => match fl with | .next e2 => I xs e2 h1 | .cont e2 => I xs e2 h1 | .brk e2 => Q (.next e2) h1 | .ret w => Q (.ret w) h1) E) (done : ∀ env h, I [] env h → Q (.next env) h) :
    ∀ (items : List W) (env : Env) (h : Hs), I items env h → Sat (forGo g t f items env h) Q E
  | [], env, h, i => by rw [forGo, if_pos (hg _ _ _ i)]; exact done env h i
  | x :: xs, env, h, i => by
    obtain ⟨e1, ea, s⟩ := step x xs env h i
    rw [forGo, if_pos (hg _ _ _ i), ea]
    dsimp only
    cases er : f e1 h with
    | stuck => rw [er] at s; exact s
    | raise c vs h1 => rw [er] at s; exact s
    | ok fl h1 =>
      rw [er] at s
      rw [bind_ok]
      cases fl with
      | next e2 => exact sat_for (α := α) I hg step done xs e2 h1 s
      | cont e2 => exact sat_for (α := α) I hg step done xs e2 h1 s
      | brk e2 => exact s
      | ret w => exact s
theorem set_s {x y : Option W} {l : Env} {i : Nat} : (x :: l : List (Option W)).set (i + 1) y = x :: l.set i y := rfl
theorem set_0 {x y : Option W} {l : Env} : (x :: l : List (Option W)).set 0 y = y :: l := rfl
theorem omap_some {α β : Type} {f : α → β} {x : α} : (some x).map f = some (f x) := rfl
theorem obind_some {α β : Type} {f : α → Option β} {x : α} : (some x).bind f = f x := rfl
theorem ifT {α : Type} [inst : Decidable True] {a b : α} : @ite α True inst a b = a := if_pos trivial
theorem ifF {α : Type} [inst : Decidable False] {a b : α} : @ite α False inst a b = b := if_neg id
def Fl.wh (k : Env → Hs → R Fl) (_ : Dm k) (fl : Fl) (h2 : Hs) : R Fl := match fl with
  | .next e2 => k e2 h2
  | .cont e2 => k e2 h2
  | .brk e2 => .ok (.next e2) h2
  | .ret w => .ok (.ret w) h2
theorem wh_next {k : Env → Hs → R Fl} {d : Dm k} {e : Env} {h : Hs} : Fl.wh k d (.next e) h = k e h := rfl
theorem wh_ret {k : Env → Hs → R Fl} {d : Dm k} {w : W} {h : Hs} : Fl.wh k d (.ret w) h = .ok (.ret w) h := rfl
theorem wRun_s {T : Tab} {cal : Nat → List W → Hs → R W} {wf : Nat} {c : Ex} {b : Sts} {n : Nat} {env : Env} {h : Hs} : wRun T cal wf c b (n + 1) env h = (evE T cal c env h).bnd (fun x h1 => x.tst ((evSs T cal wf b env h1).bnd (fun fl h2 => Fl.wh (fun e h => wRun T cal wf c b n e h) .mk fl h2) .mk) (.ok (.next env) h1)) .mk := by
  unfold wRun
  rw [whileGo]
  exact congrArg (R.bind _) (funext fun x => funext fun h1 => by
    cases x with
    | bl b0 =>
      cases b0 with
      | true => exact congrArg (R.bind _) (funext fun fl => funext fun h2 => by cases fl <;> rfl)
      | false => rfl
    | _ => rfl)
theorem len_c {a : W} {l : List W} : (a :: l).length = l.length + 1 := rfl
theorem len_n : ([] : List W).length = 0 := rfl
theorem szOk_c {n : Nat} {w : W} {h : Hs} (e : n ≤ 1000) : szOk n w h = .ok w h := szOk_t (by unfold SZ; omega)
theorem lsz_c {ws : List W} {h : Hs} (e : ws.length ≤ 1000) : lsz ws h = .ok ws h := lsz_t (by unfold SZ; omega)
theorem lock_fld {env : Env} {h : Hs} {e : Ex} {f : Nat} : lockOf env h (.seq (.val (.fld e f))) = none := rfl
theorem lock_idx {env : Env} {h : Hs} {e f : Ex} : lockOf env h (.seq (.val (.idx e f))) = none := rfl
theorem lock_tup {env : Env} {h : Hs} {es : Exs} : lockOf env h (.seq (.val (.tup es))) = none := rfl
theorem lock_call {env : Env} {h : Hs} {es : Exs} {f : Nat} : lockOf env h (.seq (.val (.call f es))) = none := rfl
theorem lock_slc {env : Env} {h : Hs} {e : Ex} {a b : Cnd} : lockOf env h (.seq (.val (.slc e a b))) = none := rfl
theorem szL0 {w : W} {h : Hs} : szOk (List.length ([] : List W)) w h = .ok w h := szOk_c (by simp)
theorem szL1 {a0 w : W} {h : Hs} : szOk (List.length [a0] : Nat) w h = .ok w h := szOk_c (by simp)
theorem szL2 {a0 a1 w : W} {h : Hs} : szOk (List.length [a0, a1] : Nat) w h = .ok w h := szOk_c (by simp)
theorem szL3 {a0 a1 a2 w : W} {h : Hs} : szOk (List.length [a0, a1, a2] : Nat) w h = .ok w h := szOk_c (by simp)
theorem szL4 {a0 a1 a2 a3 w : W} {h : Hs} : szOk (List.length [a0, a1, a2, a3] : Nat) w h = .ok w h := szOk_c (by simp)
theorem szL5 {a0 a1 a2 a3 a4 w : W} {h : Hs} : szOk (List.length [a0, a1, a2, a3, a4] : Nat) w h = .ok w h := szOk_c (by simp)
theorem szL6 {a0 a1 a2 a3 a4 a5 w : W} {h : Hs} : szOk (List.length [a0, a1, a2, a3, a4, a5] : Nat) w h = .ok w h := szOk_c (by simp)
theorem szL7 {a0 a1 a2 a3 a4 a5 a6 w : W} {h : Hs} : szOk (List.length [a0, a1, a2, a3, a4, a5, a6] : Nat) w h = .ok w h := szOk_c (by simp)
theorem szL8 {a0 a1 a2 a3 a4 a5 a6 a7 w : W} {h : Hs} : szOk (List.length [a0, a1, a2, a3, a4, a5, a6, a7] : Nat) w h = .ok w h := szOk_c (by simp)
theorem lsL0 {h : Hs} : lsz [] h = .ok [] h := lsz_c (by simp)
theorem lsL1 {a0 : W} {h : Hs} : lsz [a0] h = .ok [a0] h := lsz_c (by simp)
theorem lsL2 {a0 a1 : W} {h : Hs} : lsz [a0, a1] h = .ok [a0, a1] h := lsz_c (by simp)
theorem lsL3 {a0 a1 a2 : W} {h : Hs} : lsz [a0, a1, a2] h = .ok [a0, a1, a2] h := lsz_c (by simp)
theorem lsL4 {a0 a1 a2 a3 : W} {h : Hs} : lsz [a0, a1, a2, a3] h = .ok [a0, a1, a2, a3] h := lsz_c (by simp)
theorem lsL5 {a0 a1 a2 a3 a4 : W} {h : Hs} : lsz [a0, a1, a2, a3, a4] h = .ok [a0, a1, a2, a3, a4] h := lsz_c (by simp)
theorem lsL6 {a0 a1 a2 a3 a4 a5 : W} {h : Hs} : lsz [a0, a1, a2, a3, a4, a5] h = .ok [a0, a1, a2, a3, a4, a5] h := lsz_c (by simp)
theorem lsL7 {a0 a1 a2 a3 a4 a5 a6 : W} {h : Hs} : lsz [a0, a1, a2, a3, a4, a5, a6] h = .ok [a0, a1, a2, a3, a4, a5, a6] h := lsz_c (by simp)
theorem lsL8 {a0 a1 a2 a3 a4 a5 a6 a7 : W} {h : Hs} : lsz [a0, a1, a2, a3, a4, a5, a6, a7] h = .ok [a0, a1, a2, a3, a4, a5, a6, a7] h := lsz_c (by simp)
theorem lsL9 {a0 a1 a2 a3 a4 a5 a6 a7 a8 : W} {h : Hs} : lsz [a0, a1, a2, a3, a4, a5, a6, a7, a8] h = .ok [a0, a1, a2, a3, a4, a5, a6, a7, a8] h := lsz_c (by simp)
theorem lsL10 {a0 a1 a2 a3 a4 a5 a6 a7 a8 a9 : W} {h : Hs} : lsz [a0, a1, a2, a3, a4, a5, a6, a7, a8, a9] h = .ok [a0, a1, a2, a3, a4, a5, a6, a7, a8, a9] h := lsz_c (by simp)
theorem lsL11 {a0 a1 a2 a3 a4 a5 a6 a7 a8 a9 a10 : W} {h : Hs} : lsz [a0, a1, a2, a3, a4, a5, a6, a7, a8, a9, a10] h = .ok [a0, a1, a2, a3, a4, a5, a6, a7, a8, a9, a10] h := lsz_c (by simp)
theorem lsL12 {a0 a1 a2 a3 a4 a5 a6 a7 a8 a9 a10 a11 : W} {h : Hs} : lsz [a0, a1, a2, a3, a4, a5, a6, a7, a8, a9, a10, a11] h = .ok [a0, a1, a2, a3, a4, a5, a6, a7, a8, a9, a10, a11] h := lsz_c (by simp)
theorem lsL13 {a0 a1 a2 a3 a4 a5 a6 a7 a8 a9 a10 a11 a12 : W} {h : Hs} : lsz [a0, a1, a2, a3, a4, a5, a6, a7, a8, a9, a10, a11, a12] h = .ok [a0, a1, a2, a3, a4, a5, a6, a7, a8, a9, a10, a11, a12] h := lsz_c (by simp)
theorem lsL14 {a0 a1 a2 a3 a4 a5 a6 a7 a8 a9 a10 a11 a12 a13 : W} {h : Hs} : lsz [a0, a1, a2, a3, a4, a5, a6, a7, a8, a9, a10, a11, a12, a13] h = .ok [a0, a1, a2, a3, a4, a5, a6, a7, a8, a9, a10, a11, a12, a13] h := lsz_c (by simp)
/-! ### the bundle -/
def EV := And.intro @eE_var (And.intro @eE_non (And.intro @eE_bl (And.intro @eE_int (And.intro @eE_str (And.intro @eE_glob (And.intro @eE_op (And.intro @eE_neg (And.intro @eE_cmp (And.intro @eE_chain (And.intro @eE_isC (And.intro @eE_and (And.intro @eE_or (And.intro @eE_not (And.intro @eE_ite (And.intro @eE_tup (And.intro @eE_idx (And.intro @eE_slc (And.intro @eE_fld (And.intro @eE_call (And.intro @eE_callK (And.intro @eE_new (And.intro @eE_newK (And.intro @eE_meth (And.intro @eE_methK (And.intro @eE_bi (And.intro @eE_bm (And.intro @eE_lb (And.intro @eE_lst (And.intro @eE_eqS (And.intro @eE_inV (And.intro @eE_inF (And.intro @eE_dct0 (And.intro @eEs_nil (And.intro @eEs_cons (And.intro @eQ_val (And.intro @eQ_fresh (And.intro @eR_seq (And.intro @eR_rng (And.intro @eC_none (And.intro @eC_some (And.intro @eO_none (And.intro @eO_some (And.intro @eL_disp (And.intro @eL_comp (And.intro @eE_dcomp (And.intro @eL_lrng (And.intro @eL_litems (And.intro @eL_sorted (And.intro @eL_sortedSet (And.intro @eL_cat (And.intro @eL_rep (@eE_callD))))))))))))))))))))))))))))))))))))))))))))))))))))
def EVS := And.intro @eS_asg (And.intro @eS_asgT (And.intro @eS_fldT (And.intro @eS_fldSet (And.intro @eS_idxSet (And.intro @eS_expr (And.intro @eS_ret (And.intro @eS_retN (And.intro @eS_pass (And.intro @eS_brk (And.intro @eS_cont (And.intro @eS_ite (And.intro @eS_for (And.intro @eS_while (And.intro @eS_try (And.intro @eSs_nil (@eSs_cons))))))))))))))))
def EVR := And.intro @bnd_ok (And.intro @bnd_raise (And.intro @bnd_stuck (And.intro @vAt_0 (And.intro @vAt_s (And.intro @opt_some (And.intro @opt_none (And.intro @tst_t (And.intro @tst_f (And.intro @nt_bl (And.intro @ng_int (And.intro @sq_next (And.intro @sq_ret (And.intro @sq_brk (And.intro @sq_cont (And.intro @envR_some (And.intro @hsR_some (And.intro @lstOk_t (And.intro @fin_ret (And.intro @fin_next (And.intro @fin_raise (And.intro @cut_self (And.intro @setV_0 (And.intro @setV_s (And.intro @asg_name (And.intro @asg_nilT (And.intro @asg_consT (And.intro @setAll_nil (And.intro @setAll_cons (And.intro @wipe_nil (And.intro @wipe_cons (And.intro @lock_rng (And.intro @lock_fresh (And.intro @lock_var (And.intro @lockV_tup (And.intro @locked_none (And.intro @tryX_ok (And.intro @sat_ok (And.intro @sat_raise (And.intro @cT1_some (And.intro @condL_t (And.intro @condL_f (And.intro @condL_ok (And.intro @keyP_int (And.intro @keyP_str (And.intro @truth_bl (And.intro @cTurn_eq (And.intro @dTurn_eq (And.intro @set_s (And.intro @set_0 (And.intro @omap_some (And.intro @obind_some (And.intro @ifT (And.intro @ifF (And.intro @wh_next (And.intro @wh_ret (And.intro @szL0 (And.intro @szL1 (And.intro @szL2 (And.intro @lsL0 (And.intro @lock_fld (And.intro @lock_idx (And.intro @lock_tup (And.intro @lock_call (And.intro @lock_slc (And.intro @szL3 (And.intro @szL4 (And.intro @szL5 (And.intro @szL6 (And.intro @szL7 (And.intro @szL8 (And.intro @lsL1 (And.intro @lsL2 (And.intro @lsL3 (And.intro @lsL4 (And.intro @lsL5 (And.intro @lsL6 (And.intro @lsL7 (And.intro @lsL8 (And.intro @lsL9 (And.intro @lsL10 (And.intro @lsL11 (And.intro @lsL12 (And.intro @lsL13 (@lsL14))))))))))))))))))))))))))))))))))))))))))))))))))))))))))))))))))))))))))))))))))))
theorem isTy_non {h : Hs} {T : Tab} {t : Ty} : isTy h T t .non = some false := by cases t <;> rfl
end MP
end

section
set_option Elab.async false
set_option linter.all false
set_option maxRecDepth 100000
set_option maxHeartbeats 8000000
/-! MiniPy: walking a run: comparisons, types, of plain values; deep values. -/
namespace MP
open PySem (Str PyData)
section
variable {T : Tab} {cal : Nat → List W → Hs → R W} {h : Hs}
theorem cv_lt {a b : Int} : cmpV T cal .lt (.int a) (.int b) h = .ok (.bl (decide (a < b))) h := rfl
theorem cv_le {a b : Int} : cmpV T cal .le (.int a) (.int b) h = .ok (.bl (decide (a ≤ b))) h := rfl
theorem cv_gt {a b : Int} : cmpV T cal .gt (.int a) (.int b) h = .ok (.bl (decide (b < a))) h := rfl
theorem cv_ge {a b : Int} : cmpV T cal .ge (.int a) (.int b) h = .ok (.bl (decide (b ≤ a))) h := rfl
theorem c2_lt {a b : Int} : cmp2 h .lt (.int a) (.int b) = .ok (.bl (decide (a < b))) h := rfl
theorem c2_le {a b : Int} : cmp2 h .le (.int a) (.int b) = .ok (.bl (decide (a ≤ b))) h := rfl
theorem eqE_int {a b : Int} : eqE h (.int a) (.int b) = some (decide (a = b)) := by
  show some (a == b) = _
  congr 1
theorem eqE_bl {a b : Bool} : eqE h (.bl a) (.bl b) = some (decide (a = b)) := by
  show some (a == b) = _
  congr 1
theorem cv_eq {a b : Int} : cmpV T cal .eq (.int a) (.int b) h = .ok (.bl (decide (a = b))) h := by
  show (match eqE h (.int a) (.int b) with | some c => R.ok (W.bl c) h | none => .stuck) = _
  rw [eqE_int]
theorem cv_ne {a b : Int} : cmpV T cal .ne (.int a) (.int b) h = .ok (.bl (!decide (a = b))) h := by
  show (match eqE h (.int a) (.int b) with | some c => R.ok (W.bl (!c)) h | none => .stuck) = _
  rw [eqE_int]
theorem cv_eqb {a b : Bool} : cmpV T cal .eq (.bl a) (.bl b) h = .ok (.bl (decide (a = b))) h := by
  show (match eqE h (.bl a) (.bl b) with | some c => R.ok (W.bl c) h | none => .stuck) = _
  rw [eqE_bl]
theorem cv_neb {a b : Bool} : cmpV T cal .ne (.bl a) (.bl b) h = .ok (.bl (!decide (a = b))) h := by
  show (match eqE h (.bl a) (.bl b) with | some c => R.ok (W.bl (!c)) h | none => .stuck) = _
  rw [eqE_bl]
/-! ### tuples of ints -/
theorem mapM_int : ∀ {l : List Int} {n : Nat}, (wI l).mapM (deref (n + 1) h) = some (l.map PyData.int)
  | [], _ => rfl
  | i :: l, n => by rw [wI_cons, List.mapM_cons, mapM_int]; rfl
theorem eqvAll_int : ∀ {l m : List Int}, PyData.eqvAll (l.map .int) (m.map .int) = decide (l = m)
  | [], [] => rfl
  | [], _ :: _ => rfl
  | _ :: _, [] => rfl
  | i :: l, j :: m => by
    rw [List.map_cons, List.map_cons, PyData.eqvAll, eqvAll_int, PyData.eqv]
    by_cases h1 : i = j
    · subst h1; simp
    · simp [h1]
theorem eqE_tup {l m : List Int} : eqE h (.tup (wI l)) (.tup (wI m)) = some (decide (l = m)) := by
  have e1 : deref 60 h (.tup (wI l)) = some (.tuple (l.map .int)) := by
    show ((wI l).mapM (deref (58 + 1) h)).map PyData.tuple = _
    rw [mapM_int]; rfl
  have e2 : deref 60 h (.tup (wI m)) = some (.tuple (m.map .int)) := by
    show ((wI m).mapM (deref (58 + 1) h)).map PyData.tuple = _
    rw [mapM_int]; rfl
  unfold eqE
  rw [e1, e2]
  show some (PyData.eqvAll _ _) = _
  rw [eqvAll_int]
theorem cv_eqT {l m : List Int} : cmpV T cal .eq (.tup (wI l)) (.tup (wI m)) h = .ok (.bl (decide (l = m))) h := by
  show (match eqE h (.tup (wI l)) (.tup (wI m)) with | some c => R.ok (W.bl c) h | none => .stuck) = _
  rw [eqE_tup]
theorem cv_neT {l m : List Int} : cmpV T cal .ne (.tup (wI l)) (.tup (wI m)) h = .ok (.bl (!decide (l = m))) h := by
  show (match eqE h (.tup (wI l)) (.tup (wI m)) with | some c => R.ok (W.bl (!c)) h | none => .stuck) = _
  rw [eqE_tup]
theorem cv_eqT0 {l : List Int} : cmpV T cal .eq (.tup (wI l)) (.tup []) h = .ok (.bl (decide (l = []))) h := cv_eqT (m := [])
theorem cv_neT0 {l : List Int} : cmpV T cal .ne (.tup (wI l)) (.tup []) h = .ok (.bl (!decide (l = []))) h := cv_neT (m := [])
/-- a grain: a number, a tuple of numbers -/
theorem eqE_gr {p q : Int} {l m : List Int} : eqE h (.tup [.int p, .tup (wI l)]) (.tup [.int q, .tup (wI m)]) = some (decide (p = q ∧ l = m)) := by
  have e1 : ∀ (p : Int) (l : List Int), deref 60 h (.tup [.int p, .tup (wI l)]) = some (.tuple [.int p, .tuple (l.map .int)]) := fun p l => by
    show (([W.int p, .tup (wI l)]).mapM (deref (58 + 1) h)).map PyData.tuple = _
    have e2 : deref (58 + 1) h (.tup (wI l)) = some (.tuple (l.map .int)) := by
      show ((wI l).mapM (deref (57 + 1) h)).map PyData.tuple = _
      rw [mapM_int]; rfl
    rw [List.mapM_cons, List.mapM_cons, e2]
    rfl
  unfold eqE
  rw [e1, e1]
  show some (PyData.eqvAll _ _) = _
  rw [PyData.eqvAll, PyData.eqvAll, PyData.eqv, PyData.eqv, eqvAll_int, PyData.eqvAll]
  by_cases h1 : p = q
  · subst h1; simp
  · simp [h1]
theorem cv_eqG {p q : Int} {l m : List Int} : cmpV T cal .eq (.tup [.int p, .tup (wI l)]) (.tup [.int q, .tup (wI m)]) h = .ok (.bl (decide (p = q ∧ l = m))) h := by
  show (match eqE h (.tup [.int p, .tup (wI l)]) (.tup [.int q, .tup (wI m)]) with | some c => R.ok (W.bl c) h | none => .stuck) = _
  rw [eqE_gr]
/-! ### items -/
theorem atI_nn {α : Type} {l : List α} {i : Int} (h0 : 0 ≤ i) : L2.atI l i = l[i.toNat]? := by
  unfold L2.atI L2.ixN
  rw [if_pos h0]
  by_cases h : i < l.length
  · rw [if_pos h]; rfl
  · rw [if_neg h, List.getElem?_eq_none (by omega)]; rfl
theorem idx_tup {ws : List W} {i : Int} {w : W} (h0 : 0 ≤ i) (e : ws[i.toNat]? = some w) : idx2 h (.tup ws) (.int i) = .ok w h := by
  show R.opt h (L2.atI ws i) = _
  rw [atI_nn h0, e]; rfl
theorem idx_lst {r : Nat} {ws : List W} {i : Int} {w : W} (hr : h[r]? = some (.lst ws)) (h0 : 0 ≤ i) (e : ws[i.toNat]? = some w) : idx2 h (.ref r) (.int i) = .ok w h := by
  unfold idx2
  simp only [hr]
  rw [atI_nn h0, e]; rfl
theorem inL_wI {x : Int} {l : List Int} : inL (.int x) (wI l) = some (l.contains x) := by
  unfold inL
  have h1 : (wI l).all W.flat = true := List.all_eq_true.mpr fun w hw => by obtain ⟨i, _, rfl⟩ := List.mem_map.mp hw; rfl
  have h2 : ((W.int x).flat && (wI l).all W.flat) = true := by rw [h1]; rfl
  rw [if_pos h2]
  congr 1
  induction l with
  | nil => rfl
  | cons i l ih =>
    rw [wI_cons, List.any_cons, List.contains_cons, ih (by exact List.all_eq_true.mpr fun w hw => by obtain ⟨i, _, rfl⟩ := List.mem_map.mp hw; rfl) (by
      have : (wI l).all W.flat = true := List.all_eq_true.mpr fun w hw => by obtain ⟨i, _, rfl⟩ := List.mem_map.mp hw; rfl
      rw [this]; rfl)]
    congr 1
    show decide (i = x) = decide (x = i)
    exact decide_eq_decide.mpr eq_comm
theorem in_tup {x : Int} {l : List Int} : in2 h (.int x) (.tup (wI l)) = some (l.contains x) := inL_wI
theorem len_tup {ws : List W} : bi1 h T .len [.tup ws] = .ok (.int ws.length) h := rfl
theorem len_lst {r : Nat} {ws : List W} (e : h[r]? = some (.lst ws)) : bi1 h T .len [.ref r] = .ok (.int ws.length) h := by
  rw [show bi1 h T .len [.ref r] = (match h[r]? with
    | some (.lst xs) => .ok (.int xs.length) h
    | some (.frz xs) => .ok (.int xs.length) h
    | some (.dct kvs) => .ok (.int kvs.length) h
    | _ => .stuck) from rfl, e]
theorem seq_tup {ws : List W} : seqOf h (.tup ws) = .ok ⟨ws, none, false⟩ h := rfl
theorem seq_lst {r : Nat} {ws : List W} (e : h[r]? = some (.lst ws)) : seqOf h (.ref r) = .ok ⟨ws, some (r, .lst ws), true⟩ h := by
  unfold seqOf
  simp only [e]
theorem gOk_none : gOk none h = true := rfl
theorem gOk_some {r : Nat} {c : Cell} (e : h[r]? = some c) : gOk (some (r, c)) h = true := by
  unfold gOk
  simp [e]
theorem lb_all {bs : List Bool} : lb1 h .all (bs.map .bl) = .ok (.bl (bs.all id)) h := by
  show R.opt h ((allB (bs.map .bl)).map fun bs => W.bl (bs.all id)) = _
  rw [allB_bls]; rfl
theorem lb_any {bs : List Bool} : lb1 h .any (bs.map .bl) = .ok (.bl (bs.any id)) h := by
  show R.opt h ((allB (bs.map .bl)).map fun bs => W.bl (bs.any id)) = _
  rw [allB_bls]; rfl
theorem lb_tuple {ws : List W} : lb1 h .tuple ws = .ok (.tup ws) h := rfl
theorem lb_len {ws : List W} : lb1 h .len ws = .ok (.int ws.length) h := rfl
theorem rng1 {n : Int} (h0 : n < 2 ^ 24) (h1 : -(2 ^ 62) ≤ n) : rngOf h [.int n] = .ok ⟨wI (iot 0 n.toNat), none, false⟩ h := by
  rw [show rngOf h [.int n] = if okIx n = true ∧ n.toNat ≤ SZ then .ok ⟨rngL 0 n.toNat, none, false⟩ h else .stuck from rfl, if_pos ⟨by unfold okIx; simp only [decide_eq_true_eq]; omega, by unfold SZ; omega⟩, rngL_iot]
theorem rng2 {a b : Int} (h0 : b - a < 2 ^ 24) (h1 : -(2 ^ 62) ≤ a) (h2 : a < 2 ^ 62) (h3 : -(2 ^ 62) ≤ b) (h4 : b < 2 ^ 62) : rngOf h [.int a, .int b] = .ok ⟨wI (iot a (b - a).toNat), none, false⟩ h := by
  rw [show rngOf h [.int a, .int b] = if okIx a = true ∧ okIx b = true ∧ (b - a).toNat ≤ SZ then .ok ⟨rngL a (b - a).toNat, none, false⟩ h else .stuck from rfl, if_pos ⟨by unfold okIx; simp only [decide_eq_true_eq]; omega, by unfold okIx; simp only [decide_eq_true_eq]; omega, by unfold SZ; omega⟩, rngL_iot]
end
/-! ### arithmetic -/
section
variable {h : Hs} {a b : Int}
theorem o_add : op2 h .add (.int a) (.int b) = .ok (.int (a + b)) h := rfl
theorem o_sub : op2 h .sub (.int a) (.int b) = .ok (.int (a - b)) h := rfl
theorem o_mod (hb : 0 < b) : op2 h .mod (.int a) (.int b) = .ok (.int (a % b)) h := if_pos hb
theorem o_fdiv (hb : 0 < b) (h2 : b < 1073741824) : op2 h .fdiv (.int a) (.int b) = .ok (.int (a / b)) h := if_pos ⟨hb, h2⟩
theorem o_mulL (hb : a.natAbs < 2 ^ 64) : op2 h .mul (.int a) (.int b) = .ok (.int (a * b)) h := if_pos (by unfold okMul; simp [hb])
theorem o_mulR (hb : b.natAbs < 2 ^ 64) : op2 h .mul (.int a) (.int b) = .ok (.int (a * b)) h := if_pos (by unfold okMul; simp [hb])
theorem o_pow (h0 : 0 ≤ b) (h1 : b ≤ 1000000) (h2 : a.natAbs < 2 ^ 64) : op2 h .pow (.int a) (.int b) = .ok (.int (a ^ b.toNat)) h := if_pos ⟨h0, h1, h2⟩
theorem in_dct {x : Int} {d : Nat} {kvs : List (W × W)} (e : h[d]? = some (.dct kvs)) : in2 h (.int x) (.ref d) = some (dGet (.int x) kvs).isSome := by
  unfold in2
  simp only [e]
  rfl
theorem fdiv_nn {α : Type} (ha : 0 ≤ a) (hb : 0 < b) : 0 ≤ a / b := Int.ediv_nonneg ha (Int.le_of_lt hb)
end
/-- marks as the keys of a dict -/
def kvT (l : List Int) : List (W × W) := l.map fun m => (.int m, .bl true)
theorem kvT_has {x : Int} : ∀ {l : List Int}, (dGet (.int x) (kvT l)).isSome = l.contains x
  | [] => rfl
  | m :: l => by
    have ih := kvT_has (x := x) (l := l)
    unfold kvT at ih ⊢
    rw [List.map_cons, dGet, List.contains_cons]
    by_cases e : m = x
    · subst e; simp
    · have e2 : ¬ (W.int m = W.int x) := fun z => e (by cases z; rfl)
      have e3 : ¬ x = m := fun z => e z.symm
      rw [if_neg e2, ih]
      simp [e3]
/-- {m: True for m in marks} of different marks -/
theorem pairsD_kvT : ∀ (l m : List Int), (m ++ l).Nodup → pairsD (l.map fun i => W.tup [.int i, .bl true]) (kvT m) = some (kvT (m ++ l))
  | [], m, _ => by rw [List.append_nil]; rfl
  | i :: l, m, nd => by
    have hi : i ∉ m := by
      have := (List.nodup_append.mp nd).2.2
      intro z
      exact this i z i (List.mem_cons_self ..) rfl
    have hput : dPut (.int i) (.bl true) (kvT m) = kvT (m ++ [i]) := by
      unfold dPut
      have : ((kvT m).any fun p => decide (p.1 = W.int i)) = false := by
        rw [List.any_eq_false]
        intro p hp
        obtain ⟨j, hj, rfl⟩ := List.mem_map.mp hp
        simp only [decide_eq_true_eq]
        intro z
        cases z
        exact hi hj
      rw [this, if_neg Bool.false_ne_true]
      unfold kvT
      rw [List.map_append]; rfl
    rw [List.map_cons, pairsD, if_pos (show (W.int i).key = true from rfl), hput, pairsD_kvT l (m ++ [i]) (by simpa using nd)]
    congr 2
    simp
section
variable {T : Tab} {cal : Nat → List W → Hs → R W} {e k v : Ex} {t : Tg} {c : Cnd} {ws : List Nat} {env : Env} {g : Option (Nat × Cell)} {l : Bool} {h : Hs}
/-- over numbers, some kept, each mapped -/
theorem cRun_fm {is : List Int} (p : Int → Bool) (F : Int → W) (hz : is.length ≤ SZ) (hg : gOk g h = true) (hf : ∀ i ∈ is, cTurn T cal e t c ws env (.int i) h = .ok (if p i = true then [F i] else []) h) : cRun T cal e t c ws env ⟨wI is, g, l⟩ h = .ok ((is.filter p).map F) h := by
  have : (wI is).flatMap (fun x => match x with | .int i => if p i = true then [F i] else [] | _ => []) = (is.filter p).map F := by
    clear hz hf
    induction is with
    | nil => rfl
    | cons i is ih =>
      rw [wI_cons, List.flatMap_cons, ih, List.filter_cons]
      by_cases hp : p i = true
      · simp [hp]
      · simp [hp]
  rw [← this]
  refine cRun_pure _ (by rw [wI_len]; exact hz) hg fun x hx => ?_
  obtain ⟨i, hi, rfl⟩ := List.mem_map.mp hx
  exact hf i hi
theorem dRun_kvT {is : List Int} (hz : is.length ≤ SZ) (hg : gOk g h = true) (nd : is.Nodup) (hf : ∀ i ∈ is, dTurn T cal k v t c ws env (.int i) h = .ok [.tup [.int i, .bl true]] h) : dRun T cal k v t c ws env ⟨wI is, g, l⟩ h = .ok (.ref h.length) (h ++ [.dct (kvT is)]) := by
  unfold dRun
  have e1 : compGo g (dTurn T cal k v t c ws env) (wI is) h = .ok (is.map fun i => W.tup [.int i, .bl true]) h := by
    have : (wI is).flatMap (fun x => match x with | .int i => [W.tup [.int i, .bl true]] | _ => []) = is.map fun i => W.tup [.int i, .bl true] := by
      clear hz hf nd
      induction is with
      | nil => rfl
      | cons i is ih => rw [wI_cons, List.flatMap_cons, ih]; rfl
    rw [← this]
    refine compGo_pure hg fun x hx => ?_
    obtain ⟨i, hi, rfl⟩ := List.mem_map.mp hx
    exact hf i hi
  rw [if_pos (by unfold fitL; simpa [wI_len] using hz), e1]
  show (match pairsD (is.map fun i => W.tup [.int i, .bl true]) [] with
        | some kvs => R.ok (W.ref h.length) (h ++ [Cell.dct kvs])
        | none => .stuck) = _
  have := pairsD_kvT is [] (by simpa using nd)
  rw [show (kvT []) = [] from rfl] at this
  rw [this]
  simp
end
/-! ### a search -/
theorem forGo_find {g : Option (Nat × Cell)} {f : Env → Hs → R Fl} {h : Hs} {j : Nat} {en : Option W → Env} {c : Int → Bool} {Rt : Int → W} (hs : ∀ y w, setV (en y) j w = some (en (some w))) (hg : gOk g h = true) :
    ∀ (is : List Int), (∀ i ∈ is, f (en (some (.int i))) h = if c i = true then .ok (.ret (Rt i)) h else .ok (.next (en (some (.int i)))) h) → ∀ y, ∃ z, forGo g (.name j) f (wI is) (en y) h = match is.find? c with | some i => .ok (.ret (Rt i)) h | none => .ok (.next (en z)) h
  | [], _, y => ⟨y, by rw [wI_nil, forGo, if_pos hg]; rfl⟩
  | i :: is, hf, y => by
    rw [wI_cons, forGo, if_pos hg, asg_name, hs]
    dsimp only
    rw [hf i (List.mem_cons_self ..), List.find?_cons]
    cases hc : c i with
    | true => exact ⟨none, by simp only [if_true]; rfl⟩
    | false =>
      obtain ⟨z, ez⟩ := forGo_find hs hg is (fun k hk => hf k (List.mem_cons_of_mem _ hk)) (some (.int i))
      exact ⟨z, by simp only [Bool.false_eq_true, if_false]; exact ez⟩
theorem fRun_find {T : Tab} {cal : Nat → List W → Hs → R W} {wf : Nat} {b : Sts} {g : Option (Nat × Cell)} {l : Bool} {h : Hs} {j : Nat} {is : List Int} (en : Option W → Env) (c : Int → Bool) (Rt : Int → W) (hs : ∀ y w, setV (en y) j w = some (en (some w))) (hg : gOk g h = true)
    (hf : ∀ i ∈ is, evSs T cal wf b (en (some (.int i))) h = if c i = true then .ok (.ret (Rt i)) h else .ok (.next (en (some (.int i)))) h) (y : Option W) : ∃ z, fRun T cal wf (.name j) b (en y) ⟨wI is, g, l⟩ h = match is.find? c with | some i => .ok (.ret (Rt i)) h | none => .ok (.next (en z)) h :=
  forGo_find hs hg is hf y
theorem fin_find {T : Tab} {cal : Nat → List W → Hs → R W} {wf m : Nat} {b : Sts} {g : Option (Nat × Cell)} {l : Bool} {h : Hs} {j : Nat} {is : List Int} {k : Fl → Hs → R Fl} {d : Dm k} {res : R W} {y : Option W} (en : Option W → Env) (c : Int → Bool) (Rt : Int → W) (hs : ∀ y w, setV (en y) j w = some (en (some w))) (hg : gOk g h = true)
    (hf : ∀ i ∈ is, evSs T cal wf b (en (some (.int i))) h = if c i = true then .ok (.ret (Rt i)) h else .ok (.next (en (some (.int i)))) h) (h1 : ∀ i, is.find? c = some i → fin m (k (.ret (Rt i)) h) = res) (h2 : is.find? c = none → ∀ z, fin m (k (.next (en z)) h) = res) :
    fin m ((fRun T cal wf (.name j) b (en y) ⟨wI is, g, l⟩ h).bnd k d) = res := by
  obtain ⟨z, ez⟩ := fRun_find en c Rt hs hg hf y (l := l)
  rw [ez]
  cases e : is.find? c with
  | some i => exact h1 i e
  | none => exact h2 e z
theorem mapM_int59 {l : List Int} {h : Hs} : (wI l).mapM (deref 59 h) = some (l.map PyData.int) := mapM_int (n := 58)
theorem eqS_nil {l : List Int} {h : Hs} {g : Option (Nat × Cell)} {pos : Bool} (hg : gOk g h = true) : eqSR h pos ⟨wI l, g, true⟩ ⟨[], none, true⟩ = .ok (.bl (decide (l = []) == pos)) h := by
  unfold eqSR
  rw [if_pos (by simp [hg])]
  have : eqL h (wI l) [] = some (decide (l = [])) := by
    unfold eqL
    rw [mapM_int59]
    cases l <;> rfl
  dsimp only
  rw [this]
theorem asg_consL {h : Hs} {t r : Tg} {w : W} {ws : List W} {env : Env} {a : Nat} (e : h[a]? = some (.lst (w :: ws))) : asgTg h (.cons t r) (.ref a) env = (asgTg h t w env).bind (asgTg h r (.tup ws)) := by
  rw [asgTg]
  unfold unTup
  simp only [e]
theorem app_new {h : Hs} {c : Cell} : (h ++ [c])[h.length]? = some c := by
  rw [List.getElem?_append_right (Nat.le_refl _), Nat.sub_self]; rfl
theorem app_new1 {h : Hs} {c d : Cell} : (h ++ [c, d])[h.length + 1]? = some d := by
  rw [List.getElem?_append_right (by omega), show h.length + 1 - h.length = 1 by omega]; rfl
theorem cut_no {n : Nat} {ws : List W} {h : Hs} (b : W.bels n ws = false) : cutH n ws h = h := by
  unfold cutH
  by_cases e : h.length ≤ n
  · rw [if_pos e]
  · rw [if_neg e, b]; rfl
theorem cut_no2 {n : Nat} {ws : List W} {h : Hs} {i : Nat} {c : Cell} (hi : i < n) (e : h[i]? = some c) (b : c.bel n = false) : cutH n ws h = h := by
  unfold cutH
  by_cases e0 : h.length ≤ n
  · rw [if_pos e0]
  · have : Closed n (h.take n) = false := by
      unfold Closed
      rw [List.all_eq_false]
      refine ⟨c, List.mem_of_getElem? (i := i) ?_, by rw [b]; exact Bool.false_ne_true⟩
      rw [List.getElem?_take]; simp [hi, e]
    rw [if_neg e0, this, Bool.and_false]; rfl
/-- dict([(x, True) for x in ..]) -/
theorem lb_kvT {l : List Int} {h : Hs} (nd : l.Nodup) : lb1 h .dict (l.map fun i => W.tup [.int i, .bl true]) = .ok (.ref h.length) (h ++ [.dct (kvT l)]) := by
  have := pairsD_kvT l [] (by simpa using nd)
  rw [show (kvT []) = [] from rfl] at this
  show (match pairsD (l.map fun i => W.tup [.int i, .bl true]) [] with
    | some kvs => R.ok (W.ref h.length) (h ++ [Cell.dct kvs])
    | none => .stuck) = _
  rw [this]
  simp
theorem idx_l0 {h : Hs} {r : Nat} {a : W} {l : List W} (e : h[r]? = some (.lst (a :: l))) : idx2 h (.ref r) (.int 0) = .ok a h := idx_lst e (Int.le_refl 0) rfl
theorem idx_l1 {h : Hs} {r : Nat} {a b : W} {l : List W} (e : h[r]? = some (.lst (a :: b :: l))) : idx2 h (.ref r) (.int 1) = .ok b h := idx_lst e (by decide) rfl
theorem idx_l2 {h : Hs} {r : Nat} {a b c : W} {l : List W} (e : h[r]? = some (.lst (a :: b :: c :: l))) : idx2 h (.ref r) (.int 2) = .ok c h := idx_lst e (by decide) rfl
theorem idx_t0 {h : Hs} {a : W} {l : List W} : idx2 h (.tup (a :: l)) (.int 0) = .ok a h := idx_tup (Int.le_refl 0) rfl
theorem idx_t1 {h : Hs} {a b : W} {l : List W} : idx2 h (.tup (a :: b :: l)) (.int 1) = .ok b h := idx_tup (by decide) rfl
theorem idxN0 {h : Hs} {a : W} {l : List W} : idx2 (h ++ [.lst (a :: l)]) (.ref h.length) (.int 0) = .ok a (h ++ [.lst (a :: l)]) := idx_l0 app_new
theorem idxN1 {h : Hs} {a b : W} {l : List W} : idx2 (h ++ [.lst (a :: b :: l)]) (.ref h.length) (.int 1) = .ok b (h ++ [.lst (a :: b :: l)]) := idx_l1 app_new
theorem idxN2 {h : Hs} {a b c : W} {l : List W} : idx2 (h ++ [.lst (a :: b :: c :: l)]) (.ref h.length) (.int 2) = .ok c (h ++ [.lst (a :: b :: c :: l)]) := idx_l2 app_new
theorem i_int {h : Hs} {T : Tab} {i : Int} : bi1 h T .int [.int i] = .ok (.int i) h := rfl
theorem seqN {h : Hs} {ws : List W} : seqOf (h ++ [.lst ws]) (.ref h.length) = .ok ⟨ws, some (h.length, .lst ws), true⟩ (h ++ [.lst ws]) := seq_lst app_new
theorem gOkN {h : Hs} {ws : List W} : gOk (some (h.length, .lst ws)) (h ++ [.lst ws]) = true := gOk_some app_new
theorem lenN {h : Hs} {T : Tab} {ws : List W} : bi1 (h ++ [.lst ws]) T .len [.ref h.length] = .ok (.int ws.length) (h ++ [.lst ws]) := len_lst app_new
/-! ### and, or of tests without effect -/
theorem tst_and {p q : Bool} {h : Hs} : (W.bl p).tst (R.ok (W.bl q) h) (R.ok (W.bl false) h) = R.ok (W.bl (p && q)) h := by cases p <;> rfl
theorem tst_or {p q : Bool} {h : Hs} : (W.bl p).tst (R.ok (W.bl true) h) (R.ok (W.bl q) h) = R.ok (W.bl (p || q)) h := by cases p <;> rfl
theorem tst_ite {p : Bool} {v w : W} {h : Hs} : (W.bl p).tst (R.ok v h) (R.ok w h) = R.ok (if p = true then v else w) h := by cases p <;> rfl
/-! ### types -/
theorem ty_int {h : Hs} {T : Tab} {i : Int} {t : Ty} : isTy h T t (.int i) = some (match t with | .int => true | _ => false) := by cases t <;> rfl
theorem ty_bl {h : Hs} {T : Tab} {i : Bool} {t : Ty} : isTy h T t (.bl i) = some (match t with | .int | .bool => true | _ => false) := by cases t <;> rfl
theorem ty_str {h : Hs} {T : Tab} {i : Str} {t : Ty} : isTy h T t (.str i) = some (match t with | .str => true | _ => false) := by cases t <;> rfl
theorem ty_tup {h : Hs} {T : Tab} {i : List W} {t : Ty} : isTy h T t (.tup i) = some (match t with | .tuple | .lt => true | _ => false) := by cases t <;> rfl
theorem ty_lst {h : Hs} {T : Tab} {r : Nat} {ws : List W} {t : Ty} (e : h[r]? = some (.lst ws)) : isTy h T t (.ref r) = some (match t with | .list | .lt => true | _ => false) := by cases t <;> simp only [isTy, e]
theorem ty_dct {h : Hs} {T : Tab} {r : Nat} {ws : List (W × W)} {t : Ty} (e : h[r]? = some (.dct ws)) : isTy h T t (.ref r) = some (match t with | .dict => true | _ => false) := by cases t <;> simp only [isTy, e]
theorem bi_isi {h : Hs} {T : Tab} {t : Ty} {w : W} {b : Bool} (e : isTy h T t w = some b) : bi1 h T (.isi t) [w] = .ok (.bl b) h := by
  show R.opt h ((isTy h T t w).map W.bl) = _
  rw [e]; rfl
/-! ### heaps -/
def Wf (h : Hs) : Prop := Closed h.length h = true
theorem bel_mono {n m : Nat} (hm : n ≤ m) : (∀ w : W, w.bel n = true → w.bel m = true) ∧ (∀ ws : List W, W.bels n ws = true → W.bels m ws = true) := by
  have key : ∀ k : Nat, (∀ w : W, sizeOf w ≤ k → w.bel n = true → w.bel m = true) ∧ (∀ ws : List W, sizeOf ws ≤ k → W.bels n ws = true → W.bels m ws = true) := by
    intro k
    induction k with
    | zero => exact ⟨fun w h => by cases w <;> simp at h <;> omega, fun ws h => by cases ws <;> simp at h <;> omega⟩
    | succ k ih =>
      refine ⟨fun w h b => ?_, fun ws h b => ?_⟩
      · cases w with
        | ref r => rw [W.bel] at b ⊢; simp at b ⊢; omega
        | tup xs => rw [W.bel] at b ⊢; exact ih.2 xs (by simp at h; omega) b
        | exn c xs => rw [W.bel] at b ⊢; exact ih.2 xs (by simp at h; omega) b
        | _ => rw [W.bel] <;> simp
      · cases ws with
        | nil => rfl
        | cons x xs =>
          rw [W.bels, Bool.and_eq_true] at b ⊢
          exact ⟨ih.1 x (by simp at h; omega) b.1, ih.2 xs (by simp at h; omega) b.2⟩
  exact ⟨fun w => (key _).1 w (Nat.le_refl _), fun ws => (key _).2 ws (Nat.le_refl _)⟩
theorem cell_mono {n m : Nat} (hm : n ≤ m) {c : Cell} (h : c.bel n = true) : c.bel m = true := by
  obtain ⟨b1, b2⟩ := bel_mono hm
  cases c with
  | lst xs => exact b2 _ h
  | frz xs => exact b2 _ h
  | dct kvs =>
    refine List.all_eq_true.mpr fun p hp => ?_
    have := List.all_eq_true.mp h p hp
    rw [Bool.and_eq_true] at this ⊢
    exact ⟨b1 _ this.1, b1 _ this.2⟩
  | fdc kvs =>
    refine List.all_eq_true.mpr fun p hp => ?_
    have := List.all_eq_true.mp h p hp
    rw [Bool.and_eq_true] at this ⊢
    exact ⟨b1 _ this.1, b1 _ this.2⟩
  | ins c fs => exact List.all_eq_true.mpr fun p hp => b1 _ (List.all_eq_true.mp h p hp)
theorem Wf.app {h : Hs} (w : Wf h) {c : Cell} (b : c.bel (h.length + 1) = true) : Wf (h ++ [c]) := by
  unfold Wf Closed at *
  rw [List.length_append, List.length_singleton, List.all_append]
  rw [Bool.and_eq_true]
  exact ⟨List.all_eq_true.mpr fun c hc => cell_mono (Nat.le_succ _) (List.all_eq_true.mp w c hc), by simp [b]⟩
theorem Wf.set {h : Hs} (w : Wf h) {r : Nat} {c : Cell} (b : c.bel h.length = true) : Wf (h.set r c) := by
  unfold Wf Closed at *
  rw [List.length_set]
  refine List.all_eq_true.mpr fun d hd => ?_
  rcases List.mem_or_eq_of_mem_set hd with z | rfl
  · exact List.all_eq_true.mp w d z
  · exact b
/-- what a call laid and no longer names is let go -/
theorem cut_app {h l : Hs} {ws : List W} (w : Wf h) (b : W.bels h.length ws = true) : cutH h.length ws (h ++ l) = h := by
  unfold cutH
  by_cases e : (h ++ l).length ≤ h.length
  · rw [if_pos e]
    rw [List.length_append] at e
    have : l = [] := List.eq_nil_of_length_eq_zero (by omega)
    rw [this, List.append_nil]
  · rw [if_neg e, List.take_left' rfl, b, (show Closed h.length h = true from w)]
    simp
theorem wI_bel {n : Nat} : ∀ {l : List Int}, W.bels n (wI l) = true
  | [] => rfl
  | i :: l => by rw [wI_cons, W.bels, wI_bel]; rfl
/-- h' has all of h but what stands at r -/
structure Up (r : Nat) (h h' : Hs) : Prop where
  len : h.length ≤ h'.length
  get : ∀ i, i < h.length → i ≠ r → h'[i]? = h[i]?
theorem Up.rfl' {r : Nat} {h : Hs} : Up r h h := ⟨Nat.le_refl _, fun _ _ _ => rfl⟩
theorem Up.trans {r : Nat} {h h1 h2 : Hs} (a : Up r h h1) (b : Up r h1 h2) : Up r h h2 := ⟨Nat.le_trans a.len b.len, fun i hi hn => (b.get i (Nat.lt_of_lt_of_le hi a.len) hn).trans (a.get i hi hn)⟩
theorem Up.app {r : Nat} {h l : Hs} : Up r h (h ++ l) := ⟨by rw [List.length_append]; omega, fun i hi _ => List.getElem?_append_left hi⟩
theorem Up.set {r : Nat} {h : Hs} {c : Cell} : Up r h (h.set r c) := ⟨by rw [List.length_set]; exact Nat.le_refl _, fun i _ hn => List.getElem?_set_ne (Ne.symm hn)⟩
theorem lt_of_get {α : Type} {l : List α} {i : Nat} {x : α} (e : l[i]? = some x) : i < l.length := by
  rcases Nat.lt_or_ge i l.length with k | k
  · exact k
  · rw [List.getElem?_eq_none k] at e; cases e
theorem Up.at {r g : Nat} {h h' : Hs} (u : Up r h h') {c : Cell} (e : h[g]? = some c) (n : g ≠ r) : h'[g]? = some c := (u.get g (lt_of_get e) n).trans e
theorem app_at {h l : Hs} {g : Nat} {c : Cell} (e : h[g]? = some c) : (h ++ l)[g]? = some c := by rw [List.getElem?_append_left (lt_of_get e)]; exact e
def EVX := And.intro @idx_t0 (And.intro @idx_t1 (And.intro @idxN0 (And.intro @idxN1 (And.intro @idxN2 (And.intro @i_int (And.intro @seqN (And.intro @lenN (And.intro @len_tup (And.intro @seq_tup (And.intro @o_add (And.intro @o_sub (And.intro @tst_and (And.intro @tst_or (And.intro @cv_lt (And.intro @cv_le (And.intro @cv_gt (And.intro @cv_ge (And.intro @cv_eq (And.intro @cv_ne (And.intro @cv_eqb (And.intro @cv_neb (And.intro @c2_lt @c2_le))))))))))))))))))))))
end MP
end

section
set_option Elab.async false
set_option linter.all false
set_option maxRecDepth 100000
set_option maxHeartbeats 8000000
/-! MiniPy: values all through, compared place by place. -/
namespace MP
open PySem (Str PyData)
inductive DV where
  | non | bl (b : Bool) | int (i : Int) | str (x : Str) | tup (l : List DV) | lst (l : List DV) | dct (l : List DV)
def pairW (p : W × W) : W := .tup [p.1, p.2]
def drf : Nat → Hs → W → Option DV
  | 0, _, _ => none
  | _ + 1, _, .non => some .non
  | _ + 1, _, .bl b => some (.bl b)
  | _ + 1, _, .int i => some (.int i)
  | _ + 1, _, .str x => if PyData.strOk x = true ∧ x.length ≤ 1000000 then some (.str x) else none
  | n + 1, h, .tup xs => if xs.length ≤ 1000000 then (xs.mapM (drf n h)).map .tup else none
  | n + 1, h, .ref r => match h[r]? with
    | some (.lst xs) => if xs.length ≤ 1000000 then (xs.mapM (drf n h)).map .lst else none
    | some (.dct kvs) => (match n with
      | 0 => none
      | m + 1 => if kvs.length ≤ 1000000 then ((kvs.map pairW).mapM (drf m h)).map .dct else none)
    | _ => none
  | _ + 1, _, _ => none
theorem mapM_le {α β : Type} {f g : α → Option β} : ∀ {l : List α} {ds : List β}, (∀ x ∈ l, ∀ d, f x = some d → g x = some d) → l.mapM f = some ds → l.mapM g = some ds
  | [], ds, _, e => e
  | x :: l, ds, hfg, e => by
    rw [List.mapM_cons] at e ⊢
    cases e1 : f x with
    | none => rw [e1] at e; cases e
    | some d =>
      rw [e1] at e
      cases e2 : l.mapM f with
      | none => rw [e2] at e; cases e
      | some r =>
        rw [e2] at e
        rw [hfg x (List.mem_cons_self ..) d e1, mapM_le (fun y hy => hfg y (List.mem_cons_of_mem _ hy)) e2]
        exact e
theorem mapM_at {α β : Type} {f : α → Option β} : ∀ {l : List α} {ds : List β}, l.mapM f = some ds → l.length = ds.length ∧ ∀ (k : Nat) (a : α), l[k]? = some a → f a = ds[k]?
  | [], ds, e => by
    have : ds = [] := by
      rw [List.mapM_nil] at e
      cases e; rfl
    subst this
    exact ⟨rfl, fun k a h => by cases k <;> cases h⟩
  | x :: l, ds, e => by
    rw [List.mapM_cons] at e
    cases e1 : f x with
    | none => rw [e1] at e; cases e
    | some d =>
      rw [e1] at e
      cases e2 : l.mapM f with
      | none => rw [e2] at e; cases e
      | some r =>
        rw [e2] at e
        cases e
        obtain ⟨i1, i2⟩ := mapM_at e2
        refine ⟨by rw [List.length_cons, List.length_cons, i1], fun k a h => ?_⟩
        cases k with
        | zero => cases h; rw [e1]; rfl
        | succ k => exact i2 k a h
/-- what is laid behind changes no value -/
theorem drf_ext {h h' : Hs} (u : ∀ (i : Nat) (c : Cell), h[i]? = some c → h'[i]? = some c) : ∀ (n : Nat) {w : W} {d : DV}, drf n h w = some d → drf n h' w = some d
  | 0, _, _, e => by cases e
  | n + 1, w, d, e => by
    have ih := fun (x : W) (d : DV) => drf_ext u n (w := x) (d := d)
    cases w with
    | tup xs =>
      rw [drf] at e ⊢
      split at e
      · rename_i hz
        rw [if_pos hz]
        cases e2 : xs.mapM (drf n h) with
        | none => rw [e2] at e; cases e
        | some ds => rw [e2] at e; rw [mapM_le (fun x _ d => ih x d) e2]; exact e
      · cases e
    | ref r =>
      rw [drf] at e ⊢
      cases er : h[r]? with
      | none => rw [er] at e; cases e
      | some c =>
        rw [u _ _ er]
        rw [er] at e
        cases c with
        | lst xs =>
          dsimp only at e ⊢
          split at e
          · rename_i hz
            rw [if_pos hz]
            cases e2 : xs.mapM (drf n h) with
            | none => rw [e2] at e; cases e
            | some ds => rw [e2] at e; rw [mapM_le (fun x _ d => ih x d) e2]; exact e
          · cases e
        | dct xs =>
          cases n with
          | zero => cases e
          | succ m =>
          dsimp only at e ⊢
          split at e
          · rename_i hz
            rw [if_pos hz]
            cases e2 : (xs.map pairW).mapM (drf m h) with
            | none => rw [e2] at e; cases e
            | some ds => rw [e2] at e; rw [mapM_le (fun x _ d => drf_ext u m (w := x) (d := d)) e2]; exact e
          · cases e
        | frz _ => cases e
        | fdc _ => cases e
        | ins _ _ => cases e
    | fn _ => rw [drf] at e; cases e; all_goals simp
    | cls _ => rw [drf] at e; cases e; all_goals simp
    | exn _ _ => rw [drf] at e; cases e; all_goals simp
    | non => exact e
    | bl _ => exact e
    | int _ => exact e
    | str _ => exact e
theorem drf_app {h l : Hs} {n : Nat} {w : W} {d : DV} (e : drf n h w = some d) : drf n (h ++ l) w = some d := drf_ext (fun _ _ e => app_at e) n e
theorem drf_up : ∀ (n : Nat) {h : Hs} {w : W} {d : DV}, drf n h w = some d → drf (n + 1) h w = some d
  | 0, _, _, _, e => by cases e
  | n + 1, h, w, d, e => by
    have ih := fun (x : W) (d : DV) => drf_up n (h := h) (w := x) (d := d)
    cases w with
    | tup xs =>
      rw [drf] at e ⊢
      split at e
      · rename_i hz
        rw [if_pos hz]
        cases e2 : xs.mapM (drf n h) with
        | none => rw [e2] at e; cases e
        | some ds => rw [e2] at e; rw [mapM_le (fun x _ d => ih x d) e2]; exact e
      · cases e
    | ref r =>
      rw [drf] at e ⊢
      cases er : h[r]? with
      | none => rw [er] at e; cases e
      | some c =>
        rw [er] at e
        cases c with
        | lst xs =>
          dsimp only at e ⊢
          split at e
          · rename_i hz
            rw [if_pos hz]
            cases e2 : xs.mapM (drf n h) with
            | none => rw [e2] at e; cases e
            | some ds => rw [e2] at e; rw [mapM_le (fun x _ d => ih x d) e2]; exact e
          · cases e
        | dct xs =>
          cases n with
          | zero => cases e
          | succ m =>
          dsimp only at e ⊢
          split at e
          · rename_i hz
            rw [if_pos hz]
            cases e2 : (xs.map pairW).mapM (drf m h) with
            | none => rw [e2] at e; cases e
            | some ds => rw [e2] at e; rw [mapM_le (fun x _ d => drf_up m (h := h) (w := x) (d := d)) e2]; exact e
          · cases e
        | frz _ => cases e
        | fdc _ => cases e
        | ins _ _ => cases e
    | fn _ => rw [drf] at e; cases e; all_goals simp
    | cls _ => rw [drf] at e; cases e; all_goals simp
    | exn _ _ => rw [drf] at e; cases e; all_goals simp
    | non => exact e
    | bl _ => exact e
    | int _ => exact e
    | str _ => exact e
/-! ### the text of _law_same -/
def sameB (f : Nat) : Sts := (.cons (.ite (.or (.isC true .none (.var 1)) (.bi (.isi .bool) (.cons (.var 1) .nil)))
  (.cons (.ret (.ite (.isC true .none (.var 1)) (.isC true .none (.var 0)) (.and (.bi (.isi .bool) (.cons (.var 0) .nil)) (.cmp .eq (.isC true (.some true) (.var 0)) (.isC true (.some true) (.var 1))))))
  .nil)
  .nil)
  (.cons (.ite (.bi (.isi .int) (.cons (.var 1) .nil))
  (.cons (.ret (.and (.bi (.isi .int) (.cons (.var 0) .nil)) (.and (.not (.bi (.isi .bool) (.cons (.var 0) .nil))) (.cmp .eq (.op .sub (.bi .int (.cons (.var 0) .nil)) (.var 1)) (.int 0)))))
  .nil)
  .nil)
  (.cons (.ite (.bi (.isi .str) (.cons (.var 1) .nil))
  (.cons (.ret (.and (.bi (.isi .str) (.cons (.var 0) .nil)) (.and (.cmp .eq (.bi .len (.cons (.var 0) .nil)) (.bi .len (.cons (.var 1) .nil))) (.eqS true (.fresh (.comp (.var 2) (.name 2) (.rng (.cons (.bi .len (.cons (.var 1) .nil)) .nil)) (.some (.cmp .ne (.slc (.var 0) (.some (.var 2)) (.some (.op .add (.var 2) (.int 1)))) (.idx (.var 1) (.var 2)))) [2])) (.fresh (.disp .nil))))))
  .nil)
  .nil)
  (.cons (.ite (.bi (.isi .dict) (.cons (.var 1) .nil))
  (.cons (.ret (.and (.bi (.isi .dict) (.cons (.var 0) .nil)) (.call f (.cons (.lst (.litems (.var 0))) (.cons (.lst (.litems (.var 1))) .nil)))))
  .nil)
  .nil)
  (.cons (.ite (.or (.cmp .ne (.bi (.isi .list) (.cons (.var 0) .nil)) (.bi (.isi .list) (.cons (.var 1) .nil))) (.cmp .ne (.bi (.isi .tuple) (.cons (.var 0) .nil)) (.bi (.isi .tuple) (.cons (.var 1) .nil))))
  (.cons (.ret (.bl false))
  .nil)
  .nil)
  (.cons (.ite (.or (.not (.bi (.isi .lt) (.cons (.var 0) .nil))) (.cmp .ne (.bi .len (.cons (.var 0) .nil)) (.bi .len (.cons (.var 1) .nil))))
  (.cons (.ret (.bl false))
  .nil)
  .nil)
  (.cons (.ret (.eqS true (.fresh (.comp (.var 2) (.name 2) (.rng (.cons (.bi .len (.cons (.var 1) .nil)) .nil)) (.some (.not (.call f (.cons (.idx (.var 0) (.var 2)) (.cons (.idx (.var 1) (.var 2)) .nil))))) [2])) (.fresh (.disp .nil))))
  .nil)))))))
theorem isC_none {w : W} {h : Hs} : isCk true none h w = .ok (.bl (decide (w = .non))) h := by
  unfold isCk
  dsimp only
  rw [show (decide (w = .non) == true) = decide (w = .non) by cases decide (w = .non) <;> rfl]
theorem isC_bl {a b : Bool} {h : Hs} : isCk true (some b) h (.bl a) = .ok (.bl (decide (a = b))) h := by
  unfold isCk
  dsimp only
  cases decide (a = b) <;> rfl
theorem len_str {T : Tab} {x : Str} {h : Hs} (e : x.length ≤ SZ) : bi1 h T .len [.str x] = .ok (.int x.length) h := if_pos e
theorem strOk_get {x : Str} {c : Nat} (e : PyData.strOk x = true) (hc : c ∈ x.cps.toList) : PyData.strOk ⟨#[c]⟩ = true := by
  unfold PyData.strOk at e ⊢
  rw [Array.all_eq_true'] at e
  have := e c (by simpa using hc)
  simpa using this
theorem str_at {x : Str} {i : Int} (h0 : 0 ≤ i) (h1 : i < x.length) : ∃ c, c ∈ x.cps.toList ∧ (L2.atI x.cps.toList i) = some c ∧ L2.cutS x (some i) (some (i + 1)) = ⟨#[c]⟩ := by
  have hl : i.toNat < x.cps.toList.length := by
    rw [Array.length_toList]
    have : (x.length : Int) = x.cps.size := rfl
    omega
  refine ⟨x.cps.toList[i.toNat], List.getElem_mem _, ?_, ?_⟩
  · rw [atI_nn h0, List.getElem?_eq_getElem hl]
  · unfold L2.cutS
    have e1 : HT.sIx x.length 0 (some i) = i.toNat := by
      have := HT.sIx_nat x.length 0 i.toNat
      rw [Int.toNat_of_nonneg h0] at this
      rw [this]; omega
    have e2 : HT.sIx x.length x.length (some (i + 1)) = i.toNat + 1 := by
      have := HT.sIx_nat x.length x.length (i.toNat + 1)
      rw [show ((i.toNat + 1 : Nat) : Int) = i + 1 by omega] at this
      rw [this]; omega
    rw [e1, e2, show i.toNat + 1 - i.toNat = 1 by omega, List.take_one, List.head?_drop, List.getElem?_eq_getElem hl]
    rfl
theorem oInt_int {i : Int} {h : Hs} : oInt (.int i) h = .ok (some i) h := rfl
theorem idx_str {x : Str} {i : Int} {c : Nat} {h : Hs} (e : x.length ≤ SZ) (ec : L2.atI x.cps.toList i = some c) : idx2 h (.str x) (.int i) = .ok (.str ⟨#[c]⟩) h := by
  show (if x.length ≤ SZ then R.opt h ((L2.atI x.cps.toList i).map fun c => W.str ⟨#[c]⟩) else .stuck) = _
  rw [if_pos e, ec]; rfl
theorem slc_str {x : Str} {a b : Option Int} {h : Hs} (e : x.length ≤ SZ) : slc2 h (.str x) a b = .ok (.str (L2.cutS x a b)) h := if_pos e
theorem cv_strs {T : Tab} {cal : Nat → List W → Hs → R W} {x : Str} {h : Hs} (e : PyData.strOk x = true) : cmpV T cal .ne (.str x) (.str x) h = .ok (.bl false) h := by
  show (match eqE h (.str x) (.str x) with | some c => R.ok (W.bl (!c)) h | none => .stuck) = _
  have : eqE h (.str x) (.str x) = some true := by
    unfold eqE
    rw [deref, if_pos e]
    show some (PyData.eqv _ _) = _
    rw [PyData.eqv]
    simp
  rw [this]; rfl
theorem itemsW_dct {h : Hs} {r : Nat} {kvs : List (W × W)} (e : h[r]? = some (.dct kvs)) : itemsW (.ref r) h = .ok (kvs.map pairW) h := by
  unfold itemsW
  simp only [e]
  rfl
theorem pairs_bel {n : Nat} : ∀ {kvs : List (W × W)}, (kvs.all fun p => p.1.bel n && p.2.bel n) = true → W.bels n (kvs.map pairW) = true
  | [], _ => rfl
  | p :: kvs, h => by
    rw [List.all_cons, Bool.and_eq_true] at h
    rw [List.map_cons, W.bels, pairs_bel h.2, Bool.and_true]
    unfold pairW
    rw [W.bel, W.bels, W.bels, W.bels]
    rw [Bool.and_eq_true] at h
    rw [h.1.1, h.1.2]; rfl
theorem eqS_none {h : Hs} : eqSR h true ⟨[], none, true⟩ ⟨[], none, true⟩ = .ok (.bl true) h := eqS_nil (l := []) (g := none) rfl
inductive Dsh (n : Nat) (h : Hs) : W → DV → Prop
  | non : Dsh n h .non .non
  | bl (b) : Dsh n h (.bl b) (.bl b)
  | int (i) : Dsh n h (.int i) (.int i)
  | str (x) (o : PyData.strOk x = true) (z : x.length ≤ 1000000) : Dsh n h (.str x) (.str x)
  | tup (xs ds) (e : xs.mapM (drf n h) = some ds) (z : xs.length ≤ 1000000) : Dsh n h (.tup xs) (.tup ds)
  | lst (r xs ds) (g : h[r]? = some (.lst xs)) (e : xs.mapM (drf n h) = some ds) (z : xs.length ≤ 1000000) : Dsh n h (.ref r) (.lst ds)
  | dct (r) (kvs : List (W × W)) (ds) (m : Nat) (hn : n = m + 1) (g : h[r]? = some (.dct kvs)) (e : (kvs.map pairW).mapM (drf m h) = some ds) (z : kvs.length ≤ 1000000) : Dsh n h (.ref r) (.dct ds)
theorem drf_sh {n : Nat} {h : Hs} {w : W} {d : DV} (e : drf (n + 1) h w = some d) : Dsh n h w d := by
  cases w with
  | non => cases e; exact .non
  | bl b => cases e; exact .bl b
  | int b => cases e; exact .int b
  | str x =>
    rw [drf] at e
    split at e
    · rename_i hz; cases e; exact .str x hz.1 hz.2
    · cases e
  | tup xs =>
    rw [drf] at e
    split at e
    · rename_i hz
      cases hm : xs.mapM (drf n h) with
      | none => rw [hm] at e; cases e
      | some ds => rw [hm] at e; cases e; exact .tup xs ds hm hz
    · cases e
  | ref r =>
    rw [drf] at e
    cases er : h[r]? with
    | none => rw [er] at e; cases e
    | some c =>
      rw [er] at e
      cases c with
      | lst xs =>
        dsimp only at e
        split at e
        · rename_i hz
          cases hm : xs.mapM (drf n h) with
          | none => rw [hm] at e; cases e
          | some ds => rw [hm] at e; cases e; exact .lst r xs ds er hm hz
        · cases e
      | dct xs =>
        cases n with
        | zero => cases e
        | succ m =>
        dsimp only at e
        split at e
        · rename_i hz
          cases hm : (xs.map pairW).mapM (drf m h) with
          | none => rw [hm] at e; cases e
          | some ds => rw [hm] at e; cases e; exact .dct r xs ds m rfl er hm hz
        · cases e
      | frz _ => cases e
      | fdc _ => cases e
      | ins _ _ => cases e
  | fn _ => rw [drf] at e; cases e; all_goals simp
  | cls _ => rw [drf] at e; cases e; all_goals simp
  | exn _ _ => rw [drf] at e; cases e; all_goals simp
section
variable {P : Pg} {f : Nat}
/-- equal values are told to be the same -/
theorem same_ok (hc : ∀ n a b h, callN P (n + 1) f [a, b] h = fin h.length (evSs P.T (callN P n) P.wf (sameB f) [some a, some b, none] h)) :
    ∀ (n k : Nat) (h : Hs) (a b : W) (d : DV), Wf h → drf n h a = some d → drf n h b = some d → callN P (2 * n + k + 1) f [a, b] h = .ok (.bl true) h
  | 0, _, _, _, _, _, _, e, _ => by cases e
  | n + 1, k, h, a, b, d, wf, ea, eb => by
    have ih := same_ok hc n
    have z : SZ = 16777216 := rfl
    have row : ∀ (N : Nat) (xs ys : List W) (ds : List DV) (env : Env) (ca cb : W), xs.mapM (drf n h) = some ds → ys.mapM (drf n h) = some ds → xs.length ≤ 1000000 → (∀ i w, 0 ≤ i → xs[i.toNat]? = some w → idx2 h ca (.int i) = .ok w h) → (∀ i w, 0 ≤ i → ys[i.toNat]? = some w → idx2 h cb (.int i) = .ok w h) →
        cRun P.T (callN P (2 * n + k + 1 + 1)) (.var 2) (.name 2) (.some (.not (.call f (.cons (.idx (.var 0) (.var 2)) (.cons (.idx (.var 1) (.var 2)) .nil))))) [2] [some ca, some cb, none] ⟨wI (iot 0 ys.length), none, false⟩ h = .ok [] h := by
      intro N xs ys ds env ca cb hx hy hz ia ib
      obtain ⟨l1, g1⟩ := mapM_at hx
      obtain ⟨l2, g2⟩ := mapM_at hy
      refine cRun_none (by rw [iot_len]; omega) rfl fun i hi => ?_
      have hi := iot_mem.mp hi
      have x1 : xs[i.toNat]? = some xs[i.toNat] := List.getElem?_eq_getElem (by omega)
      have y1 : ys[i.toNat]? = some ys[i.toNat] := List.getElem?_eq_getElem (by omega)
      have d1 : ds[i.toNat]? = some ds[i.toNat] := List.getElem?_eq_getElem (by omega)
      have := ih (k + 1) h _ _ _ wf ((g1 _ _ x1).trans d1) ((g2 _ _ y1).trans d1)
      rw [show 2 * n + (k + 1) + 1 = 2 * n + k + 1 + 1 by omega] at this
      simp only [EV, EVS, EVR, ia i _ hi.1 x1, ib i _ hi.1 y1, this, Bool.not_true, Bool.false_eq_true, if_false]
    rw [show 2 * (n + 1) + k + 1 = 2 * n + k + 1 + 1 + 1 by omega, hc]
    unfold sameB
    cases drf_sh eb with
    | non =>
      cases drf_sh ea
      simp only [EV, EVS, EVR, isC_none, decide_true]
    | bl b =>
      cases drf_sh ea
      have : decide (W.bl b = W.non) = false := by simp
      simp only [EV, EVS, EVR, EVX, isC_none, isC_bl, this, bi_isi ty_bl, decide_true]
    | int i =>
      cases drf_sh ea
      have : decide (W.int i = W.non) = false := by simp
      simp only [EV, EVS, EVR, EVX, isC_none, isC_bl, this, bi_isi ty_int, decide_true, Bool.not_false, Int.sub_self, tst_and, Bool.and_true]
    | str x o hz =>
      cases drf_sh ea
      have hz' : x.length ≤ SZ := by omega
      have : decide (W.str x = W.non) = false := by simp
      simp only [EV, EVS, EVR, EVX, isC_none, isC_bl, this, bi_isi ty_str, decide_true, Bool.not_false, Int.sub_self, tst_and, Bool.and_true, len_str hz']
      rw [rng1 (by omega) (by omega), show ((x.length : Nat) : Int).toNat = x.length by omega]
      simp only [EVR]
      rw [cRun_none (by rw [iot_len]; omega) rfl fun i hi => ?_]
      · simp only [EV, EVS, EVR, eqS_none]
      · have hi := iot_mem.mp hi
        obtain ⟨c, hc1, hc2, hc3⟩ := str_at (x := x) hi.1 (by omega)
        simp only [EV, EVS, EVR, EVX, oInt_int, slc_str hz', idx_str hz' hc2, hc3, cv_strs (strOk_get o hc1), Bool.false_eq_true, if_false]
    | tup ys ds hy hz =>
      cases drf_sh ea with
      | tup xs _ hx hz2 =>
        have : decide (W.tup ys = W.non) = false := by simp
        have hl : xs.length = ys.length := (mapM_at hx).1.trans (mapM_at hy).1.symm
        simp only [EV, EVS, EVR, EVX, isC_none, isC_bl, this, bi_isi ty_tup, decide_true, Bool.not_true, hl]
        rw [rng1 (by omega) (by omega), show ((ys.length : Nat) : Int).toNat = ys.length by omega]
        simp only [EVR]
        rw [row 0 xs ys ds [] (.tup xs) (.tup ys) hx hy hz2 (fun i w h0 e => idx_tup h0 e) (fun i w h0 e => idx_tup h0 e)]
        simp only [EV, EVS, EVR, eqS_none]
    | lst q ys ds gy hy hz =>
      cases drf_sh ea with
      | lst p xs _ gx hx hz2 =>
        have : decide (W.ref q = W.non) = false := by simp
        have hl : xs.length = ys.length := (mapM_at hx).1.trans (mapM_at hy).1.symm
        simp only [EV, EVS, EVR, EVX, isC_none, isC_bl, this, bi_isi (ty_lst gx), bi_isi (ty_lst gy), len_lst gx, len_lst gy, decide_true, Bool.not_true, hl]
        rw [rng1 (by omega) (by omega), show ((ys.length : Nat) : Int).toNat = ys.length by omega]
        simp only [EVR]
        rw [row 0 xs ys ds [] (.ref p) (.ref q) hx hy hz2 (fun i w h0 e => idx_lst gx h0 e) (fun i w h0 e => idx_lst gy h0 e)]
        simp only [EV, EVS, EVR, eqS_none]
    | dct q kvs ds m hn gy hy hz =>
      subst hn
      cases drf_sh ea with
      | dct p kus _ m' hn gx hx hz2 =>
        cases hn
        have : decide (W.ref q = W.non) = false := by simp
        have gy2 : (h ++ [Cell.lst (kus.map pairW)])[q]? = some (.dct kvs) := app_at gy
        have g1 : (h ++ [Cell.lst (kus.map pairW)] ++ [Cell.lst (kvs.map pairW)])[h.length]? = some (.lst (kus.map pairW)) := app_at app_new
        have g2 : (h ++ [Cell.lst (kus.map pairW)] ++ [Cell.lst (kvs.map pairW)])[(h ++ [Cell.lst (kus.map pairW)]).length]? = some (.lst (kvs.map pairW)) := app_new
        have bl : ∀ {r : Nat} {l : List (W × W)}, h[r]? = some (.dct l) → W.bels h.length (l.map pairW) = true := fun e => pairs_bel (List.all_eq_true.mp wf _ (List.mem_of_getElem? e))
        have w1 : Wf (h ++ [Cell.lst (kus.map pairW)]) := wf.app ((bel_mono (Nat.le_succ _)).2 _ (bl gx))
        have w2 : Wf (h ++ [Cell.lst (kus.map pairW)] ++ [Cell.lst (kvs.map pairW)]) := w1.app ((bel_mono (by rw [List.length_append, List.length_singleton]; omega)).2 _ (bl gy))
        have d1 : drf (m + 1) (h ++ [Cell.lst (kus.map pairW)] ++ [Cell.lst (kvs.map pairW)]) (.ref h.length) = some (.lst ds) := by
          rw [drf, g1]
          dsimp only
          rw [if_pos (by rw [List.length_map]; exact hz2), mapM_le (fun x _ d e => drf_app (drf_app e)) hx]; rfl
        have d2 : drf (m + 1) (h ++ [Cell.lst (kus.map pairW)] ++ [Cell.lst (kvs.map pairW)]) (.ref (h ++ [Cell.lst (kus.map pairW)]).length) = some (.lst ds) := by
          rw [drf, g2]
          dsimp only
          rw [if_pos (by rw [List.length_map]; exact hz), mapM_le (fun x _ d e => drf_app (drf_app e)) hy]; rfl
        have := ih (k + 1) _ _ _ _ w2 d1 d2
        rw [show 2 * (m + 1) + (k + 1) + 1 = 2 * (m + 1) + k + 1 + 1 by omega] at this
        have no : decide (W.ref q = W.non) = false := by simp
        simp only [EV, EVS, EVR, EVX, isC_none, isC_bl, no, bi_isi (ty_dct gx), bi_isi (ty_dct gy), itemsW_dct gx, itemsW_dct gy2, decide_true, Bool.not_true, this]
        rw [List.append_assoc, cut_app wf (by simp [W.bels, W.bel])]
end
end MP
end

section
set_option Elab.async false
set_option linter.all false
set_option maxRecDepth 100000
set_option maxHeartbeats 8000000
/-! MiniPy: the law's box of draws; what a walk keeps. -/
namespace MP
open PySem (Str PyData)
def BoxC (n : Int) (c : Cell) : Prop := ∃ (a : Int) (b : Bool) (q m : Int), c = .lst [.int a, .bl b, .int q, .int m] ∧ 0 ≤ a ∧ 0 ≤ q ∧ q < 2147483629 ∧ 0 ≤ m ∧ m ≤ n
/-- a heap all closed, with a box at r that gave at most n draws -/
structure HSt (r : Nat) (h : Hs) (n : Int) : Prop where
  wf : Wf h
  box : ∃ c, h[r]? = some c ∧ BoxC n c
theorem BoxC.mono {n m : Int} {c : Cell} (b : BoxC n c) (e : n ≤ m) : BoxC m c := by
  obtain ⟨a, b, q, k, e1, e2, e3, e4, e5, e6⟩ := b
  exact ⟨a, b, q, k, e1, e2, e3, e4, e5, by omega⟩
theorem HSt.mono {r : Nat} {h : Hs} {n m : Int} (s : HSt r h n) (e : n ≤ m) : HSt r h m := by
  obtain ⟨w, c, e1, e2⟩ := s
  exact ⟨w, c, e1, e2.mono e⟩
theorem HSt.lt {r : Nat} {h : Hs} {n : Int} (s : HSt r h n) : r < h.length := by
  obtain ⟨w, c, e1, e2⟩ := s
  exact lt_of_get e1
theorem HSt.app {r : Nat} {h : Hs} {n : Int} (s : HSt r h n) {c : Cell} (b : c.bel (h.length + 1) = true) : HSt r (h ++ [c]) n := by
  obtain ⟨w, c, e1, e2⟩ := s
  exact ⟨w.app b, c, app_at e1, e2⟩
theorem HSt.set {r : Nat} {h : Hs} {n : Int} (s : HSt r h n) {q : Nat} {c : Cell} (ne : q ≠ r) (b : c.bel h.length = true) : HSt r (h.set q c) n := by
  obtain ⟨w, c, e1, e2⟩ := s
  exact ⟨w.set b, c, by rw [List.getElem?_set_ne ne]; exact e1, e2⟩
/-- what a call lets go -/
theorem cut_HSt {r : Nat} {h h1 : Hs} {n : Int} {ws : List W} (s : HSt r h1 n) (u : Up r h h1) (hr : r < h.length) : HSt r (cutH h.length ws h1) n ∧ Up r h (cutH h.length ws h1) := by
  unfold cutH
  split
  · exact ⟨s, u⟩
  · split
    · rename_i hl hb
      rw [Bool.and_eq_true] at hb
      obtain ⟨w, c, e1, e2⟩ := s
      have hlen : (h1.take h.length).length = h.length := by rw [List.length_take]; omega
      refine ⟨⟨?_, c, ?_, e2⟩, ⟨by rw [hlen]; exact Nat.le_refl _, fun i hi hn => ?_⟩⟩
      · unfold Wf; rw [hlen]; exact hb.2
      · rw [List.getElem?_take, if_pos hr]; exact e1
      · rw [List.getElem?_take, if_pos hi]; exact u.get i hi hn
    · exact ⟨s, u⟩
theorem Wf.apps {h : Hs} (w : Wf h) {l : Hs} (b : l.all (·.bel (h.length + l.length)) = true) : Wf (h ++ l) := by
  unfold Wf Closed at *
  rw [List.length_append, List.all_append, Bool.and_eq_true]
  exact ⟨List.all_eq_true.mpr fun c hc => cell_mono (Nat.le_add_right _ _) (List.all_eq_true.mp w c hc), b⟩
theorem HSt.apps {r : Nat} {h : Hs} {n : Int} (s : HSt r h n) {l : Hs} (b : l.all (·.bel (h.length + l.length)) = true) : HSt r (h ++ l) n := by
  obtain ⟨w, c, e1, e2⟩ := s
  exact ⟨w.apps b, c, app_at e1, e2⟩
/-! ### one draw -/
def takeB : Sts := (.cons (.ite (.and (.idx (.var 0) (.int 1)) (.cmp .gt (.idx (.var 0) (.int 0)) (.int 0)))
  (.cons (.asg (.name 2) (.op .mod (.bi .int (.cons (.idx (.var 0) (.int 0)) .nil)) (.var 1)))
  (.cons (.idxSet (.var 0) (.int 0) (.op .fdiv (.idx (.var 0) (.int 0)) (.var 1)))
  (.cons (.ret (.var 2))
  .nil)))
  .nil)
  (.cons (.idxSet (.var 0) (.int 3) (.op .add (.idx (.var 0) (.int 3)) (.int 1)))
  (.cons (.asg (.name 3) (.op .mod (.bi .int (.cons (.op .pow (.op .add (.op .add (.idx (.var 0) (.int 2)) (.op .mul (.int 15485867) (.idx (.var 0) (.int 3)))) (.int 179424691)) (.int 5)) .nil)) (.int 2147483647)))
  (.cons (.ret (.op .mod (.bi .int (.cons (.op .fdiv (.op .mod (.bi .int (.cons (.op .pow (.op .add (.op .mul (.var 3) (.int 48271)) (.op .mul (.int 104743) (.idx (.var 0) (.int 3)))) (.int 3)) .nil)) (.int 2147483587)) (.int 64)) .nil)) (.var 1)))
  .nil))))
theorem idx_l3 {h : Hs} {r : Nat} {a b c d : W} {l : List W} (e : h[r]? = some (.lst (a :: b :: c :: d :: l))) : idx2 h (.ref r) (.int 3) = .ok d h := idx_lst e (by decide) rfl
theorem bl_mulL {h : Hs} {a b : Int} (hb : a.natAbs < 2 ^ 64) : op2 h .mul (.int a) (.int b) = .ok (.int (a * b)) h := o_mulL hb
section
variable {P : Pg} {f : Nat}
theorem take_ok (hc : ∀ n a b h, callN P (n + 1) f [a, b] h = fin h.length (evSs P.T (callN P n) P.wf takeB [some a, some b, none, none] h)) {k r : Nat} {h : Hs} {n many : Int} (s : HSt r h n) (hn : n ≤ 1000000) (h1 : 1 ≤ many) (h2 : many < 1073741824) :
    ∃ (x : Int) (h' : Hs), callN P (k + 1) f [.ref r, .int many] h = .ok (.int x) h' ∧ 0 ≤ x ∧ x < many ∧ HSt r h' (n + 1) ∧ Up r h h' ∧ h'.length = h.length := by
  have s0 := s
  obtain ⟨w, c, e, a, b, q, m, rfl, a0, q0, q1, m0, m1⟩ := s
  have hr := lt_of_get e
  rw [hc]
  unfold takeB
  have T1 : ∀ (x y z : Int) (b : Bool), (Cell.lst [.int x, .bl b, .int y, .int z]).bel h.length = true := fun x y z b => rfl
  simp only [EV, EVS, EVR, EVX, idx_l0 e, idx_l1 e]
  have second : ∃ (x : Int) (h' : Hs), fin h.length
      (evSs P.T (callN P k) P.wf
          (.cons (.idxSet (.var 0) (.int 3) (.op .add (.idx (.var 0) (.int 3)) (.int 1)))
  (.cons (.asg (.name 3) (.op .mod (.bi .int (.cons (.op .pow (.op .add (.op .add (.idx (.var 0) (.int 2)) (.op .mul (.int 15485867) (.idx (.var 0) (.int 3)))) (.int 179424691)) (.int 5)) .nil)) (.int 2147483647)))
  (.cons (.ret (.op .mod (.bi .int (.cons (.op .fdiv (.op .mod (.bi .int (.cons (.op .pow (.op .add (.op .mul (.var 3) (.int 48271)) (.op .mul (.int 104743) (.idx (.var 0) (.int 3)))) (.int 3)) .nil)) (.int 2147483587)) (.int 64)) .nil)) (.var 1)))
  .nil))) [some (.ref r), some (.int many), none, none] h) = .ok (.int x) h' ∧ 0 ≤ x ∧ x < many ∧ HSt r h' (n + 1) ∧ Up r h h' ∧ h'.length = h.length := by
    have e2 : ∀ c : Cell, (h.set r c)[r]? = some c := fun c => by rw [List.getElem?_set_self hr]
    have p1 := Int.emod_nonneg ((q + 15485867 * (m + 1) + 179424691) ^ 5) (show (2147483647 : Int) ≠ 0 by decide)
    have p2 := Int.emod_lt_of_pos ((q + 15485867 * (m + 1) + 179424691) ^ 5) (show (0 : Int) < 2147483647 by decide)
    have z : ∀ y : Int, HSt r (h.set r (.lst [.int a, .bl b, .int q, .int (m + 1)])) (n + 1) := fun _ => ⟨w.set (T1 ..), _, e2 _, a, b, q, m + 1, rfl, a0, q0, q1, by omega, by omega⟩
    have ix : L2.ixN [W.int a, W.bl b, W.int q, W.int m].length 3 = some 3 := by unfold L2.ixN; rfl
    simp only [EV, EVS, EVR, EVX, idx_l3 e, idxPut_lst e ix, List.set_cons_succ, List.set_cons_zero]
    simp only [EV, EVS, EVR, EVX, idx_l2 (e2 _), idx_l3 (e2 _), o_mulL (show (15485867 : Int).natAbs < 2 ^ 64 by decide), o_mulL (show (104743 : Int).natAbs < 2 ^ 64 by decide), o_mulR (show (48271 : Int).natAbs < 2 ^ 64 by decide)]
    rw [o_pow (by decide) (by decide) (by omega)]
    simp only [EV, EVS, EVR, EVX, o_mod (show (0 : Int) < 2147483647 by decide), idx_l3 (e2 _), o_mulL (show (104743 : Int).natAbs < 2 ^ 64 by decide), o_mulR (show (48271 : Int).natAbs < 2 ^ 64 by decide)]
    rw [o_pow (by decide) (by decide) (by simp only [Int.reduceToNat]; omega)]
    simp only [EV, EVS, EVR, EVX, o_mod (show (0 : Int) < 2147483587 by decide), o_fdiv (show (0 : Int) < 64 by decide) (show (64 : Int) < 1073741824 by decide), o_mod (show 0 < many by omega)]
    refine ⟨_, _, rfl, Int.emod_nonneg _ (by omega), Int.emod_lt_of_pos _ (by omega), ?_⟩
    have c0 : ∀ ws, cutH h.length ws (h.set r (.lst [.int a, .bl b, .int q, .int (m + 1)])) = h.set r (.lst [.int a, .bl b, .int q, .int (m + 1)]) := fun ws => by
      unfold cutH
      rw [if_pos (by rw [List.length_set]; exact Nat.le_refl _)]
    rw [c0]
    exact ⟨z 0, Up.set, List.length_set ..⟩
  cases hb : (b && decide (0 < a)) with
  | false =>
    simp only [EVR]
    exact second
  | true =>
    rw [Bool.and_eq_true, decide_eq_true_eq] at hb
    obtain ⟨rfl, ha⟩ := hb
    have ix : L2.ixN [W.int a, W.bl true, W.int q, W.int m].length 0 = some 0 := by unfold L2.ixN; rfl
    simp only [EVR, EV, EVS, EVX, idx_l0 e, o_mod (show 0 < many by omega), o_fdiv (show 0 < many by omega) h2, idxPut_lst e ix, List.set_cons_zero]
    refine ⟨_, _, rfl, Int.emod_nonneg _ (by omega), Int.emod_lt_of_pos _ (by omega), ?_⟩
    have c0 : ∀ ws, cutH h.length ws (h.set r (.lst [.int (a / many), .bl true, .int q, .int m])) = h.set r (.lst [.int (a / many), .bl true, .int q, .int m]) := fun ws => by
      unfold cutH
      rw [if_pos (by rw [List.length_set]; exact Nat.le_refl _)]
    rw [c0]
    exact ⟨⟨w.set (T1 ..), _, List.getElem?_set_self hr, a / many, true, q, m, rfl, Int.ediv_nonneg a0 (by omega), q0, q1, m0, by omega⟩, Up.set, List.length_set ..⟩
end
end MP
end

section
set_option Elab.async false
set_option linter.all false
set_option maxRecDepth 100000
set_option maxHeartbeats 8000000
/-! MiniPy: loops that go on, two turns of a comprehension, values laid behind a heap. -/
namespace MP
open PySem (Str PyData)
theorem for_ok {g : Option (Nat × Cell)} {t : Tg} {f : Env → Hs → R Fl} (I : Nat → Env → Hs → Prop) (hg : ∀ k env h, I k env h → gOk g h = true) (all : List W)
    (step : ∀ k x env h, all[k]? = some x → I k env h → ∃ e1 e2 h2, asgTg h t x env = some e1 ∧ f e1 h = .ok (.next e2) h2 ∧ I (k + 1) e2 h2) :
    ∀ (items : List W) (k : Nat) (env : Env) (h : Hs), items = all.drop k → I k env h → ∃ env' h' , forGo g t f items env h = .ok (.next env') h' ∧ I (k + items.length) env' h'
  | [], k, env, h, _, i => ⟨env, h, by rw [forGo, if_pos (hg _ _ _ i)], i⟩
  | x :: xs, k, env, h, e, i => by
    have hk : all[k]? = some x := by
      have := congrArg List.head? e
      rw [List.head?_cons, List.head?_drop] at this
      exact this.symm
    obtain ⟨e1, e2, h2, ea, ef, i2⟩ := step k x env h hk i
    have hx : xs = all.drop (k + 1) := by
      have := congrArg List.tail e
      rw [List.tail_cons, List.tail_drop] at this
      exact this
    obtain ⟨env', h', er, i3⟩ := for_ok I hg all step xs (k + 1) e2 h2 hx i2
    refine ⟨env', h', ?_, ?_⟩
    · rw [forGo, if_pos (hg _ _ _ i), ea]
      dsimp only
      rw [ef, bind_ok]
      exact er
    · rw [List.length_cons, show k + (xs.length + 1) = k + 1 + xs.length by omega]; exact i3
theorem fRun_ok {T : Tab} {cal : Nat → List W → Hs → R W} {wf : Nat} {t : Tg} {b : Sts} {g : Option (Nat × Cell)} {l : Bool} {all : List W} {env : Env} {h : Hs} (I : Nat → Env → Hs → Prop) (hg : ∀ k env h, I k env h → gOk g h = true)
    (step : ∀ k x env h, all[k]? = some x → I k env h → ∃ e1 e2 h2, asgTg h t x env = some e1 ∧ evSs T cal wf b e1 h = .ok (.next e2) h2 ∧ I (k + 1) e2 h2) (i : I 0 env h) :
    ∃ env' h', fRun T cal wf t b env ⟨all, g, l⟩ h = .ok (.next env') h' ∧ I all.length env' h' := by
  obtain ⟨e, h', e1, e2⟩ := for_ok I hg all step all 0 env h rfl i
  rw [Nat.zero_add] at e2
  exact ⟨e, h', e1, e2⟩
theorem ex_for {T : Tab} {cal : Nat → List W → Hs → R W} {wf m : Nat} {t : Tg} {b : Sts} {g : Option (Nat × Cell)} {l : Bool} {all : List W} {env : Env} {h : Hs} {k : Fl → Hs → R Fl} {d : Dm k} {v : W} {Q : Hs → Prop} (I : Nat → Env → Hs → Prop) (i : I 0 env h) (hg : ∀ k env h, I k env h → gOk g h = true)
    (step : ∀ k x env h, all[k]? = some x → I k env h → ∃ e1, asgTg h t x env = some e1 ∧ ∃ e2 h2, evSs T cal wf b e1 h = .ok (.next e2) h2 ∧ I (k + 1) e2 h2)
    (done : ∀ env' h', I all.length env' h' → ∃ hh, fin m (k (.next env') h') = .ok v hh ∧ Q hh) : ∃ hh, fin m ((fRun T cal wf t b env ⟨all, g, l⟩ h).bnd k d) = .ok v hh ∧ Q hh := by
  obtain ⟨e, h', e1, e2⟩ := fRun_ok (l := l) (wf := wf) (cal := cal) (T := T) (t := t) (b := b) I hg (fun k x env h a i => by
    obtain ⟨e1, ea, e2, h2, ef, i2⟩ := step k x env h a i
    exact ⟨e1, e2, h2, ea, ef, i2⟩) i
  rw [e1]
  exact done e h' e2
section
variable {T : Tab} {cal : Nat → List W → Hs → R W} {e : Ex} {t : Tg} {c : Cnd} {ws : List Nat} {env : Env} {l : Bool} {h h1 h2 : Hs} {a b x y : W}
theorem cRun_two (ea : cTurn T cal e t c ws env a h = .ok [x] h1) (eb : cTurn T cal e t c ws env b h1 = .ok [y] h2) : cRun T cal e t c ws env ⟨[a, b], none, l⟩ h = .ok [x, y] h2 := by
  have g0 : ∀ h : Hs, gOk none h = true := fun _ => rfl
  have : compGo none (cTurn T cal e t c ws env) [a, b] h = .ok [x, y] h2 := by
    rw [compGo, if_pos (g0 _), ea, bind_ok, compGo, if_pos (g0 _), eb, bind_ok, compGo, if_pos (g0 _), bind_ok, bind_ok]
    rfl
  unfold cRun
  rw [if_pos (by unfold fitL SZ; simp), this]
  rfl
end
/-! ### behind a heap -/
theorem app_k {h l : Hs} {k : Nat} : (h ++ l)[h.length + k]? = l[k]? := by
  rw [List.getElem?_append_right (by omega), Nat.add_sub_cancel_left]
theorem app_0 {h l : Hs} : (h ++ l)[h.length]? = l[0]? := app_k (k := 0)
theorem Up.off {r q : Nat} {h0 h h' : Hs} (u : Up r h0 h) (v : Up q h h') (hq : h0.length ≤ q) : Up r h0 h' := ⟨Nat.le_trans u.len v.len, fun i hi hn => (v.get i (Nat.lt_of_lt_of_le hi u.len) (by omega)).trans (u.get i hi hn)⟩
theorem HSt.off {r q : Nat} {h h' : Hs} {n : Int} (s : HSt r h n) (u : Up q h h') (ne : r ≠ q) (w : Wf h') : HSt r h' n := by
  obtain ⟨_, c, e1, e2⟩ := s
  exact ⟨w, c, u.at e1 ne, e2⟩
theorem cut_Up {q : Nat} {h h1 : Hs} {ws : List W} (w : Wf h1) (u : Up q h h1) : Wf (cutH h.length ws h1) ∧ Up q h (cutH h.length ws h1) := by
  unfold cutH
  split
  · exact ⟨w, u⟩
  · split
    · rename_i hl hb
      rw [Bool.and_eq_true] at hb
      have hlen : (h1.take h.length).length = h.length := by rw [List.length_take]; omega
      refine ⟨?_, ⟨by rw [hlen]; exact Nat.le_refl _, fun i hi hn => ?_⟩⟩
      · unfold Wf; rw [hlen]; exact hb.2
      · rw [List.getElem?_take, if_pos hi]; exact u.get i hi hn
    · exact ⟨w, u⟩
/-! ### values -/
section
variable {n : Nat} {h : Hs}
theorem d_non : drf (n + 1) h .non = some .non := rfl
theorem d_bl {b : Bool} : drf (n + 1) h (.bl b) = some (.bl b) := rfl
theorem d_int {b : Int} : drf (n + 1) h (.int b) = some (.int b) := rfl
theorem d_tup {xs : List W} {ds : List DV} (e : xs.mapM (drf n h) = some ds) (z : xs.length ≤ 1000000) : drf (n + 1) h (.tup xs) = some (.tup ds) := by
  rw [drf, if_pos z, e]; rfl
theorem d_lst {r : Nat} {xs : List W} {ds : List DV} (g : h[r]? = some (.lst xs)) (e : xs.mapM (drf n h) = some ds) (z : xs.length ≤ 1000000) : drf (n + 1) h (.ref r) = some (.lst ds) := by
  rw [drf, g]
  dsimp only
  rw [if_pos z, e]; rfl
theorem m_nil : ([] : List W).mapM (drf n h) = some [] := rfl
theorem m_cons {x : W} {xs : List W} {d : DV} {ds : List DV} (e1 : drf n h x = some d) (e2 : xs.mapM (drf n h) = some ds) : (x :: xs).mapM (drf n h) = some (d :: ds) := by
  rw [List.mapM_cons, e1, e2]; rfl
theorem m_wI {l : List Int} : (wI l).mapM (drf (n + 1) h) = some (l.map .int) := by
  induction l with
  | nil => rfl
  | cons i l ih => rw [wI_cons]; exact m_cons rfl ih
end
end MP
end

section
set_option Elab.async false
set_option linter.all false
set_option maxRecDepth 100000
set_option maxHeartbeats 8000000
/-! MiniPy: wrong values that a law gives; what an error keeps of them. -/
namespace MP
open PySem (Str PyData)
/-- a flat value -/
inductive Fl1 : W → Prop
  | non : Fl1 .non
  | bl (b) : Fl1 (.bl b)
  | int (i) : Fl1 (.int i)
  | str (x) (o : PyData.strOk x = true) (z : x.length ≤ 1000000) : Fl1 (.str x)
theorem Fl1.drf {w : W} (f : Fl1 w) : ∃ d, ∀ (n : Nat) (h : Hs), MP.drf (n + 1) h w = some d := by
  cases f with
  | non => exact ⟨_, fun _ _ => rfl⟩
  | bl b => exact ⟨_, fun _ _ => rfl⟩
  | int i => exact ⟨_, fun _ _ => rfl⟩
  | str x o z => exact ⟨_, fun _ _ => by rw [MP.drf, if_pos ⟨o, z⟩]⟩
theorem Fl1.bel {w : W} (f : Fl1 w) (n : Nat) : w.bel n = true := by cases f <;> simp [W.bel]
theorem fls_bel {n : Nat} : ∀ {ws : List W}, (∀ w ∈ ws, Fl1 w) → W.bels n ws = true
  | [], _ => rfl
  | w :: ws, f => by rw [W.bels, (f w (List.mem_cons_self ..)).bel, fls_bel fun x hx => f x (List.mem_cons_of_mem _ hx)]; rfl
theorem fls_drf {n : Nat} {h : Hs} : ∀ {ws : List W}, (∀ w ∈ ws, Fl1 w) → ∃ ds, ws.mapM (MP.drf (n + 1) h) = some ds
  | [], _ => ⟨[], rfl⟩
  | w :: ws, f => by
    obtain ⟨d, e⟩ := (f w (List.mem_cons_self ..)).drf
    obtain ⟨ds, e2⟩ := fls_drf (n := n) (h := h) fun x hx => f x (List.mem_cons_of_mem _ hx)
    exact ⟨d :: ds, m_cons (e n h) e2⟩
/-- a flat value, a tuple of such, a list of such, an empty dict; its cell, if it has one -/
inductive Odd : Option Nat → Hs → W → Prop
  | flat {h w} (f : Fl1 w) : Odd none h w
  | tup {h ws} (f : ∀ w ∈ ws, Fl1 w) (z : ws.length ≤ 100) : Odd none h (.tup ws)
  | lst {h q ws} (g : h[q]? = some (.lst ws)) (f : ∀ w ∈ ws, Fl1 w) (z : ws.length ≤ 100) : Odd (some q) h (.ref q)
  | dct {h q} (g : h[q]? = some (.dct [])) : Odd (some q) h (.ref q)
theorem Odd.keep {o : Option Nat} {h h' : Hs} {w : W} (d : Odd o h w) (u : ∀ q, o = some q → ∀ c, h[q]? = some c → h'[q]? = some c) : Odd o h' w := by
  cases d with
  | flat f => exact .flat f
  | tup f z => exact .tup f z
  | lst g f z => exact .lst (u _ rfl _ g) f z
  | dct g => exact .dct (u _ rfl _ g)
theorem Odd.app {o : Option Nat} {h l : Hs} {w : W} (d : Odd o h w) : Odd o (h ++ l) w := d.keep fun _ _ _ e => app_at e
theorem Odd.up {o : Option Nat} {h h' : Hs} {w : W} {r : Nat} (d : Odd o h w) (u : Up r h h') (n : o ≠ some r) : Odd o h' w := d.keep fun q e c hc => u.at hc fun z => n (by rw [e, z])
theorem Odd.drf {o : Option Nat} {h : Hs} {w : W} (d : Odd o h w) : ∃ d, MP.drf 5 h w = some d := by
  cases d with
  | flat f => obtain ⟨d, e⟩ := f.drf; exact ⟨d, e _ _⟩
  | tup f z => obtain ⟨ds, e⟩ := fls_drf (n := 3) (h := h) f; exact ⟨_, d_tup e (by omega)⟩
  | lst g f z => obtain ⟨ds, e⟩ := fls_drf (n := 3) (h := h) f; exact ⟨_, d_lst g e (by omega)⟩
  | dct g =>
    refine ⟨.dct [], ?_⟩
    rw [MP.drf, g]
    rfl
theorem Odd.bel {o : Option Nat} {h : Hs} {w : W} (d : Odd o h w) : w.bel h.length = true := by
  cases d with
  | flat f => exact f.bel _
  | tup f z => rw [W.bel]; exact fls_bel f
  | lst g f z => rw [W.bel]; simpa using lt_of_get g
  | dct g => rw [W.bel]; simpa using lt_of_get g
/-- all but o's cell stays -/
def UpO (o : Option Nat) (h h' : Hs) : Prop := h.length ≤ h'.length ∧ ∀ i, i < h.length → o ≠ some i → h'[i]? = h[i]?
theorem UpO.refl {o : Option Nat} {h : Hs} : UpO o h h := ⟨Nat.le_refl _, fun _ _ _ => rfl⟩
theorem UpO.set {q : Nat} {h : Hs} {c : Cell} : UpO (some q) h (h.set q c) := ⟨by rw [List.length_set]; exact Nat.le_refl _, fun i _ hn => List.getElem?_set_ne fun z => hn (by rw [z])⟩
theorem UpO.app {o : Option Nat} {h l : Hs} : UpO o h (h ++ l) := ⟨by rw [List.length_append]; omega, fun i hi _ => List.getElem?_append_left hi⟩
theorem UpO.trans {o : Option Nat} {h h1 h2 : Hs} (a : UpO o h h1) (b : UpO o h1 h2) : UpO o h h2 := ⟨Nat.le_trans a.1 b.1, fun i hi hn => (b.2 i (Nat.lt_of_lt_of_le hi a.1) hn).trans (a.2 i hi hn)⟩
theorem UpO.at {o : Option Nat} {g : Nat} {h h' : Hs} (u : UpO o h h') {c : Cell} (e : h[g]? = some c) (n : o ≠ some g) : h'[g]? = some c := (u.2 g (lt_of_get e) n).trans e
theorem Up.offO {r : Nat} {o : Option Nat} {h0 h h' : Hs} (u : Up r h0 h) (v : UpO o h h') (hq : ∀ q, o = some q → h0.length ≤ q) : Up r h0 h' := ⟨Nat.le_trans u.len v.1, fun i hi hn => (v.2 i (Nat.lt_of_lt_of_le hi u.len) fun z => by have := hq i z; omega).trans (u.get i hi hn)⟩
theorem HSt.offO {r : Nat} {o : Option Nat} {h h' : Hs} {n : Int} (s : HSt r h n) (u : UpO o h h') (ne : o ≠ some r) (w : Wf h') : HSt r h' n := by
  obtain ⟨_, c, e1, e2⟩ := s
  exact ⟨w, c, u.at e1 ne, e2⟩
theorem Odd.upO {o p : Option Nat} {h h' : Hs} {w : W} (d : Odd o h w) (u : UpO p h h') (n : ∀ q, o = some q → p ≠ some q) : Odd o h' w := d.keep fun q e c hc => u.at hc (n q e)
theorem cut_UpO {o : Option Nat} {h h1 : Hs} {ws : List W} (w : Wf h1) (u : UpO o h h1) : Wf (cutH h.length ws h1) ∧ UpO o h (cutH h.length ws h1) := by
  unfold cutH
  split
  · exact ⟨w, u⟩
  · split
    · rename_i hl hb
      rw [Bool.and_eq_true] at hb
      have hlen : (h1.take h.length).length = h.length := by rw [List.length_take]; omega
      refine ⟨?_, ⟨by rw [hlen]; exact Nat.le_refl _, fun i hi hn => ?_⟩⟩
      · unfold Wf; rw [hlen]; exact hb.2
      · rw [List.getElem?_take, if_pos hi]; exact u.2 i hi hn
    · exact ⟨w, u⟩
/-! ### an error's value -/
def blamedB (f : Nat) : Sts := (.cons (.ite (.not (.call f (.cons (.var 0) (.cons (.var 1) .nil))))
  (.cons (.ret (.bl false))
  .nil)
  .nil)
  (.cons (.ite (.bi (.isi .list) (.cons (.var 1) .nil))
  (.cons (.expr (.bm .append (.var 1) (.cons (.int 7) .nil)))
  .nil)
  .nil)
  (.cons (.ite (.bi (.isi .dict) (.cons (.var 1) .nil))
  (.cons (.idxSet (.var 1) (.str (PySem.Str.ofString "more")) (.int 7))
  .nil)
  .nil)
  (.cons (.ret (.call f (.cons (.var 0) (.cons (.var 1) .nil))))
  .nil))))
def keptB (f fb : Nat) : Sts := (.cons (.ret (.and (.call f (.cons (.lst (.disp (.cons (.idx (.var 0) (.int 0)) (.cons (.and (.cmp .eq (.bi .len (.cons (.var 0) .nil)) (.int 3)) (.idx (.var 0) (.int 2))) .nil)))) (.cons (.lst (.disp (.cons (.var 1) (.cons (.bl true) .nil)))) .nil))) (.call fb (.cons (.idx (.var 0) (.int 1)) (.cons (.var 2) .nil)))))
  .nil)
def copyB (f : Nat) : Sts := (.cons (.ite (.bi (.isi .list) (.cons (.var 0) .nil))
  (.cons (.ret (.lst (.comp (.call f (.cons (.var 1) .nil)) (.name 1) (.seq (.val (.var 0))) .none [1])))
  .nil)
  .nil)
  (.cons (.ite (.bi (.isi .tuple) (.cons (.var 0) .nil))
  (.cons (.ret (.lb .tuple (.fresh (.comp (.call f (.cons (.var 1) .nil)) (.name 1) (.seq (.val (.var 0))) .none [1]))))
  .nil)
  .nil)
  (.cons (.ret (.ite (.bi (.isi .dict) (.cons (.var 0) .nil)) (.lb .dict (.fresh (.comp (.tup (.cons (.var 2) (.cons (.call f (.cons (.idx (.var 0) (.var 2)) .nil)) .nil))) (.name 2) (.seq (.val (.var 0))) .none [2]))) (.var 0)))
  .nil)))
theorem bmK_app {h : Hs} {r : Nat} {ws : List W} (e : h[r]? = some (.lst ws)) : bmK h .append (.ref r) = true := by
  unfold bmK
  simp only [e]
theorem bm_app {h : Hs} {r : Nat} {ws : List W} {w : W} (e : h[r]? = some (.lst ws)) (z : ws.length < SZ) : bm2 h .append (.ref r) [w] = .ok .non (h.set r (.lst (ws ++ [w]))) := by
  unfold bm2
  simp only [e, z, if_true]
theorem fl_ty {w : W} {h : Hs} {T : Tab} (f : Fl1 w) : bi1 h T (.isi .list) [w] = .ok (.bl false) h ∧ bi1 h T (.isi .dict) [w] = .ok (.bl false) h ∧ bi1 h T (.isi .tuple) [w] = .ok (.bl false) h := by
  cases f <;> exact ⟨rfl, rfl, rfl⟩
section
variable {P : Pg} {f fb fk fc : Nat} {k : Nat} {h : Hs} {w : W} {o : Option Nat}
theorem blamed_ok (hs : ∀ (k : Nat) (h : Hs) (a c : W) (v : DV), Wf h → drf 5 h a = some v → drf 5 h c = some v → callN P (k + 11) f [a, c] h = .ok (.bl true) h) (hc : ∀ n a b h, callN P (n + 1) fb [a, b] h = fin h.length (evSs P.T (callN P n) P.wf (blamedB f) [some a, some b] h)) (d : Odd o h w) (wf : Wf h) :
    ∃ h', callN P (k + 12) fb [w, w] h = .ok (.bl true) h' ∧ UpO o h h' ∧ Wf h' := by
  obtain ⟨v, dv⟩ := d.drf
  rw [hc]
  unfold blamedB
  have z : SZ = 16777216 := rfl
  simp only [EV, EVS, EVR, EVX, hs k h w w v wf dv dv, Bool.not_true]
  cases d with
  | flat fl =>
    obtain ⟨t1, t2, _⟩ := fl_ty (h := h) (T := P.T) fl
    simp only [EV, EVS, EVR, EVX, t1, t2, hs k h w w v wf dv dv]
    exact ⟨_, rfl, UpO.refl, wf⟩
  | tup fl zz =>
    simp only [EV, EVS, EVR, EVX, bi_isi ty_tup, hs k h _ _ v wf dv dv]
    exact ⟨_, rfl, UpO.refl, wf⟩
  | @lst _ q ws g fl zz =>
    have hq := lt_of_get g
    have g2 : (h.set q (.lst (ws ++ [.int 7])))[q]? = some (.lst (ws ++ [.int 7])) := List.getElem?_set_self hq
    have fl2 : ∀ w ∈ ws ++ [.int 7], Fl1 w := fun w hw => by
      rcases List.mem_append.mp hw with a | a
      · exact fl w a
      · obtain rfl : w = .int 7 := by simpa using a
        exact .int 7
    have wf2 : Wf (h.set q (.lst (ws ++ [.int 7]))) := wf.set (fls_bel fl2)
    obtain ⟨ds, e2⟩ := fls_drf (n := 3) (h := h.set q (.lst (ws ++ [.int 7]))) fl2
    have dv2 := d_lst g2 e2 (by rw [List.length_append, List.length_singleton]; omega)
    simp only [EV, EVS, EVR, EVX, bi_isi (ty_lst g), bmK_app g, bm_app g (show ws.length < SZ by omega), bi_isi (ty_lst g2), hs k _ _ _ _ wf2 dv2 dv2]
    obtain ⟨y1, y2⟩ := cut_UpO (ws := [.bl true]) wf2 (UpO.set (q := q) (h := h) (c := .lst (ws ++ [.int 7])))
    exact ⟨_, rfl, y2, y1⟩
  | @dct _ q g =>
    have hq := lt_of_get g
    have g2 : (h.set q (.dct [(.str (PySem.Str.ofString "more"), .int 7)]))[q]? = some (.dct [(.str (PySem.Str.ofString "more"), .int 7)]) := List.getElem?_set_self hq
    have wf2 : Wf (h.set q (.dct [(.str (PySem.Str.ofString "more"), .int 7)])) := wf.set rfl
    have dv2 : drf 5 (h.set q (.dct [(.str (PySem.Str.ofString "more"), .int 7)])) (.ref q) = some (.dct [.tup [.str (PySem.Str.ofString "more"), .int 7]]) := by
      rw [MP.drf, g2]
      show Option.map DV.dct (List.mapM (MP.drf 3 _) [W.tup [.str (PySem.Str.ofString "more"), .int 7]]) = _
      have e1 : MP.drf 2 (h.set q (.dct [(.str (PySem.Str.ofString "more"), .int 7)])) (.str (PySem.Str.ofString "more")) = some (.str (PySem.Str.ofString "more")) := by
        rw [MP.drf, if_pos (by decide +kernel)]
      rw [m_cons (d_tup (m_cons e1 (m_cons d_int m_nil)) (by simp)) m_nil]
      rfl
    have pt : dPut (.str (PySem.Str.ofString "more")) (.int 7) [] = [(.str (PySem.Str.ofString "more"), .int 7)] := rfl
    simp only [EV, EVS, EVR, EVX, bi_isi (ty_dct g), idxPut_dct g (k := .str (PySem.Str.ofString "more")) rfl (show ([] : List (W × W)).length < SZ by decide), pt, hs k _ _ _ _ wf2 dv2 dv2]
    obtain ⟨y1, y2⟩ := cut_UpO (ws := [.bl true]) wf2 (UpO.set (q := q) (h := h) (c := .dct [(.str (PySem.Str.ofString "more"), .int 7)]))
    exact ⟨_, rfl, y2, y1⟩
theorem kept_ok (hs : ∀ (k : Nat) (h : Hs) (a c : W) (v : DV), Wf h → drf 5 h a = some v → drf 5 h c = some v → callN P (k + 11) f [a, c] h = .ok (.bl true) h) (hb : ∀ n a b h, callN P (n + 1) fb [a, b] h = fin h.length (evSs P.T (callN P n) P.wf (blamedB f) [some a, some b] h)) (hc : ∀ n a b c h, callN P (n + 1) fk [a, b, c] h = fin h.length (evSs P.T (callN P n) P.wf (keptB f fb) [some a, some b, some c] h)) {t : Nat} {x : Str} (fx : Fl1 (.str x)) (e : h[t]? = some (.lst [.str x, w, .bl true])) (d : Odd o h w) (wf : Wf h) :
    ∃ h', callN P (k + 13) fk [.ref t, .str x, w] h = .ok (.bl true) h' ∧ UpO o h h' ∧ Wf h' := by
  rw [hc]
  unfold keptB
  have wf1 : Wf (h ++ [.lst [.str x, .bl true]]) := wf.app rfl
  have wf2 : Wf (h ++ [.lst [.str x, .bl true]] ++ [.lst [.str x, .bl true]]) := wf1.app rfl
  obtain ⟨dx, ex⟩ := fx.drf
  have d1 : drf 5 (h ++ [.lst [.str x, .bl true]] ++ [.lst [.str x, .bl true]]) (.ref h.length) = some (.lst [dx, .bl true]) := d_lst (app_at app_new) (m_cons (ex _ _) (m_cons rfl m_nil)) (by simp)
  have d2 : drf 5 (h ++ [.lst [.str x, .bl true]] ++ [.lst [.str x, .bl true]]) (.ref (h ++ [Cell.lst [.str x, .bl true]]).length) = some (.lst [dx, .bl true]) := d_lst app_new (m_cons (ex _ _) (m_cons rfl m_nil)) (by simp)
  have e2 : (h ++ [.lst [.str x, .bl true]] ++ [.lst [.str x, .bl true]])[t]? = some (.lst [.str x, w, .bl true]) := app_at (app_at e)
  obtain ⟨h', eh, u, wf3⟩ := blamed_ok (k := k) hs hb (d.app.app (l := [.lst [.str x, .bl true]])) wf2
  have l3 : decide (((([W.str x, w, .bl true] : List W).length : Nat) : Int) = 3) = true := rfl
  simp only [EV, EVS, EVR, EVX, idx_l0 e, idx_l1 e2, idx_l2 e, len_lst e, l3, hs _ _ _ _ _ wf2 d1 d2, eh]
  obtain ⟨y1, y2⟩ := cut_UpO (ws := [.bl true]) wf3 ((UpO.app.trans UpO.app).trans u)
  exact ⟨_, rfl, y2, y1⟩
theorem copy_ok (hc : ∀ n a h, callN P (n + 1) fc [a] h = fin h.length (evSs P.T (callN P n) P.wf (copyB fc) [some a, none, none] h)) (d : Odd o h w) (wf : Wf h) :
    ∃ v l', callN P (k + 2) fc [w] h = .ok v (h ++ l') ∧ l'.all (·.bel (h.length + l'.length)) = true ∧ v.bel (h.length + l'.length) = true := by
  have fl1 : ∀ {k : Nat} {h : Hs} {w : W}, Fl1 w → callN P (k + 1) fc [w] h = .ok w h := fun {k h w} f => by
    rw [hc]
    unfold copyB
    obtain ⟨t1, t2, t3⟩ := fl_ty (h := h) (T := P.T) f
    simp only [EV, EVS, EVR, EVX, t1, t2, t3]
  have fm : ∀ ws : List W, ws.flatMap (fun x => [x]) = ws := fun ws => by induction ws <;> simp_all
  have z : SZ = 16777216 := rfl
  cases d with
  | flat f => exact ⟨w, [], by rw [fl1 f, List.append_nil], rfl, f.bel _⟩
  | @tup _ ws f zz =>
    refine ⟨.tup ws, [], ?_, rfl, by rw [W.bel]; exact fls_bel f⟩
    rw [hc]
    unfold copyB
    simp only [EV, EVS, EVR, EVX, bi_isi ty_tup]
    rw [cRun_pure (fun x => [x]) (by omega) rfl fun x hx => by simp only [EV, EVS, EVR, EVX, fl1 (f x hx)]]
    simp only [EV, EVS, EVR, EVX, lb_tuple, fm, List.append_nil]
  | @lst _ q ws g f zz =>
    refine ⟨.ref h.length, [.lst ws], ?_, by simp [Cell.bel, fls_bel f], by simp [W.bel]⟩
    rw [hc]
    unfold copyB
    simp only [EV, EVS, EVR, EVX, bi_isi (ty_lst g), lockV_lst g, seq_lst g]
    rw [cRun_pure (fun x => [x]) (by omega) (gOk_some g) fun x hx => by simp only [EV, EVS, EVR, EVX, fl1 (f x hx)]]
    simp only [EV, EVS, EVR, EVX, fm]
    rw [cut_no (by simp [W.bels, W.bel])]
  | @dct _ q g =>
    refine ⟨.ref h.length, [.dct []], ?_, rfl, by simp [W.bel]⟩
    rw [hc]
    unfold copyB
    have lk : lockV h (some (.ref q)) = some (q, []) := by
      unfold lockV
      simp only [g]
    simp only [EV, EVS, EVR, EVX, bi_isi (ty_dct g), lk]
    have gf : (h.set q (.fdc []))[q]? = some (.fdc []) := List.getElem?_set_self (lt_of_get g)
    rw [locked_some (v := []) ?_ g]
    · simp only [EV, EVS, EVR, EVX]
      have : lb1 h .dict [] = .ok (.ref h.length) (h ++ [.dct []]) := rfl
      rw [this]
      simp only [EV, EVS, EVR, EVX]
      rw [cut_no (by simp [W.bels, W.bel])]
    · have sq : seqOf (h.set q (.fdc [])) (.ref q) = .ok ⟨[], some (q, .fdc []), false⟩ (h.set q (.fdc [])) := by
        unfold seqOf
        simp only [gf]
        rfl
      simp only [EV, EVS, EVR, EVX, sq]
      rw [cRun_pure (fun x => [x]) (by decide) (gOk_some gf) fun x hx => by cases hx]
      rfl
end
end MP
end

section
set_option Elab.async false
set_option linter.all false
set_option maxRecDepth 100000
set_option maxHeartbeats 8000000
/-! MiniPy: comprehensions that draw, tests with effect. -/
namespace MP
theorem compGo_st {g : Option (Nat × Cell)} {f : W → Hs → R (List W)} (J : Nat → List W → Hs → Prop) (hg : ∀ k acc h, J k acc h → gOk g h = true) (all : List W)
    (turn : ∀ k x acc h, all[k]? = some x → J k acc h → ∃ zs h', f x h = .ok zs h' ∧ J (k + 1) (acc ++ zs) h') :
    ∀ (items : List W) (k : Nat) (acc : List W) (h : Hs), items = all.drop k → J k acc h → ∃ ys h', compGo g f items h = .ok ys h' ∧ J (k + items.length) (acc ++ ys) h'
  | [], k, acc, h, _, i => ⟨[], h, by rw [compGo, if_pos (hg _ _ _ i)], by rw [List.append_nil]; exact i⟩
  | x :: xs, k, acc, h, e, i => by
    have hk : all[k]? = some x := by
      have := congrArg List.head? e
      rw [List.head?_cons, List.head?_drop] at this
      exact this.symm
    obtain ⟨zs, h1, ef, i2⟩ := turn k x acc h hk i
    have hx : xs = all.drop (k + 1) := by
      have := congrArg List.tail e
      rw [List.tail_cons, List.tail_drop] at this
      exact this
    obtain ⟨ys, h', er, i3⟩ := compGo_st J hg all turn xs (k + 1) (acc ++ zs) h1 hx i2
    refine ⟨zs ++ ys, h', ?_, ?_⟩
    · rw [compGo, if_pos (hg _ _ _ i), ef, bind_ok, er, bind_ok]
    · rw [List.length_cons, show k + (xs.length + 1) = k + 1 + xs.length by omega, ← List.append_assoc]; exact i3
theorem cRun_st {T : Tab} {cal : Nat → List W → Hs → R W} {e : Ex} {t : Tg} {c : Cnd} {ws : List Nat} {env : Env} {g : Option (Nat × Cell)} {l : Bool} {all : List W} {h : Hs} (J : Nat → List W → Hs → Prop) (hz : all.length ≤ SZ) (hg : ∀ k acc h, J k acc h → gOk g h = true)
    (turn : ∀ k x acc h, all[k]? = some x → J k acc h → ∃ zs h', cTurn T cal e t c ws env x h = .ok zs h' ∧ J (k + 1) (acc ++ zs) h') (i : J 0 [] h) :
    ∃ ys h', cRun T cal e t c ws env ⟨all, g, l⟩ h = .ok ys h' ∧ J all.length ys h' := by
  obtain ⟨ys, h', e1, i2⟩ := compGo_st J hg all turn all 0 [] h rfl i
  refine ⟨ys, h', ?_, by rw [Nat.zero_add] at i2; exact i2⟩
  unfold cRun
  rw [if_pos (by unfold fitL; simpa using hz), e1]
  rfl
theorem tst_ex {α : Type} {b : Bool} {A B : R α} (Post : α → Hs → Prop) (hA : b = true → ∃ v h', A = .ok v h' ∧ Post v h') (hB : b = false → ∃ v h', B = .ok v h' ∧ Post v h') : ∃ v h', (W.bl b).tst A B = .ok v h' ∧ Post v h' := by
  cases b with
  | true => exact hA rfl
  | false => exact hB rfl
theorem ex_bnd {α β : Type} {r : R α} {k : α → Hs → R β} {d : Dm k} (Post : α → Hs → Prop) {C : β → Hs → Prop} {F : β → β} (h1 : ∃ v h', r = .ok v h' ∧ Post v h') (h2 : ∀ v h', Post v h' → ∃ e2 h2, k v h' = .ok (F e2) h2 ∧ C e2 h2) : ∃ e2 h2, r.bnd k d = .ok (F e2) h2 ∧ C e2 h2 := by
  obtain ⟨v, h', e, p⟩ := h1
  rw [e]
  exact h2 v h' p
theorem ex_bndE {α : Type} {r : R α} {k : α → Hs → R Fl} {d : Dm k} (Post : α → Hs → Prop) {C : Env → Hs → Prop} (h1 : ∃ v h', r = .ok v h' ∧ Post v h') (h2 : ∀ v h', Post v h' → ∃ e2 h2, k v h' = .ok (.next e2) h2 ∧ C e2 h2) : ∃ e2 h2, r.bnd k d = .ok (.next e2) h2 ∧ C e2 h2 := by
  obtain ⟨v, h', e, p⟩ := h1
  rw [e]
  exact h2 v h' p
theorem rngI_ok {ws is : List W} {g : Option (Nat × Cell)} {l : Bool} {h : Hs} (e : rngOf h ws = .ok ⟨is, g, l⟩ h) : rngI ws h = .ok is h := by
  unfold rngI
  rw [e]; rfl
def rngSI (lo st : Int) : Nat → List Int
  | 0 => []
  | n + 1 => lo :: rngSI (lo + st) st n
theorem rngS_eq : ∀ (n : Nat) (lo st : Int), rngS lo st n = wI (rngSI lo st n)
  | 0, _, _ => rfl
  | n + 1, lo, st => by rw [rngS, rngSI, wI_cons, rngS_eq]
theorem rng3 {h : Hs} {a b c : Int} (e : 0 < c ∧ c < 1073741824 ∧ PySem.Builtin.Range.small a b c = true ∧ 0 ≤ PySem.Builtin.Range.rangeSize a b c ∧ PySem.Builtin.Range.rangeSize a b c ≤ 16777216) : rngOf h [.int a, .int b, .int c] = .ok ⟨wI (rngSI a c (PySem.Builtin.Range.rangeSize a b c).toNat), none, false⟩ h := by
  rw [← rngS_eq]
  exact if_pos e
end MP
end

section
set_option Elab.async false
set_option linter.all false
set_option maxRecDepth 100000
set_option maxHeartbeats 8000000
/-! The text of law_k77 in the small language. -/
namespace K77
open MP
def b_is_integer : Sts := (.cons (.ret (.and (.bi (.isi .int) (.cons (.var 0) .nil)) (.not (.bi (.isi .bool) (.cons (.var 0) .nil)))))
  .nil)
def b_is_between : Sts := (.cons (.ret (.and (.call 0 (.cons (.var 0) .nil)) (.chain (.var 1) .le (.var 0) .le (.var 2))))
  .nil)
def b_are_between : Sts := (.cons (.ret (.lb .all (.fresh (.comp (.call 1 (.cons (.var 3) (.cons (.var 1) (.cons (.var 2) .nil)))) (.name 3) (.seq (.val (.var 0))) .none [3]))))
  .nil)
def b_is_rising : Sts := (.cons (.ret (.lb .all (.fresh (.comp (.cmp .lt (.idx (.var 0) (.var 1)) (.idx (.var 0) (.op .add (.var 1) (.int 1)))) (.name 1) (.rng (.cons (.op .sub (.bi .len (.cons (.var 0) .nil)) (.int 1)) .nil)) .none [1]))))
  .nil)
def b_is_rising_row : Sts := (.cons (.ret (.and (.bi (.isi .tuple) (.cons (.var 0) .nil)) (.and (.call 2 (.cons (.var 0) (.cons (.var 1) (.cons (.var 2) .nil)))) (.call 3 (.cons (.var 0) .nil)))))
  .nil)
def b_divisor : Sts := (.cons (.asgT [2, 3] (.cons (.bi .abs (.cons (.var 0) .nil)) (.cons (.bi .abs (.cons (.var 1) .nil)) .nil)))
  (.cons (.while (.cmp .ne (.var 3) (.int 0))
  (.cons (.asgT [2, 3] (.cons (.var 3) (.cons (.op .mod (.var 2) (.var 3)) .nil)))
  .nil))
  (.cons (.ret (.var 2))
  .nil)))
def b_check_great : Sts := (.cons (.ite (.not (.call 1 (.cons (.var 0) (.cons (.neg (.glob 2)) (.cons (.glob 2) .nil)))))
  (.cons (.raise 6 (.cons (.var 0) .nil))
  .nil)
  .nil)
  .nil)
def b_made_of : Sts := (.cons (.asg (.name 2) (.new 9 (.cons (.int 1) (.cons (.tup (.cons (.int 0) .nil)) .nil))))
  (.cons (.fldT [2, 2] [3, 4] (.cons (.var 0) (.cons (.var 1) .nil)))
  (.cons (.fldSet (.var 2) 0 (.dcomp (.var 3) (.bl true) (.name 3) (.seq (.val (.var 1))) .none [3]))
  (.cons (.ret (.var 2))
  .nil))))
def b_whole_period : Sts := (.cons (.ret (.op .fdiv (.op .mul (.fld (.var 0) 3) (.fld (.var 1) 3)) (.call 5 (.cons (.fld (.var 0) 3) (.cons (.fld (.var 1) 3) .nil)))))
  .nil)
def b_check_period : Sts := (.cons (.ite (.cmp .gt (.var 0) (.glob 1))
  (.cons (.raise 8 (.cons (.var 0) .nil))
  .nil)
  .nil)
  .nil)
def b_is_known : Sts := (.cons (.ite (.or (.not (.bi (.isi .tuple) (.cons (.var 0) .nil))) (.or (.cmp .ne (.bi .len (.cons (.var 0) .nil)) (.int 2)) (.not (.call 1 (.cons (.idx (.var 0) (.int 0)) (.cons (.var 1) (.cons (.var 2) .nil)))))))
  (.cons (.ret (.bl false))
  .nil)
  .nil)
  (.cons (.ret (.call 1 (.cons (.idx (.var 0) (.int 1)) (.cons (.op .add (.idx (.var 0) (.int 0)) (.int 1)) (.cons (.var 2) .nil)))))
  .nil))
def b_check_interval : Sts := (.cons (.ite (.not (.call 10 (.cons (.var 0) (.cons (.var 1) (.cons (.var 2) .nil)))))
  (.cons (.raise 4 (.cons (.var 0) .nil))
  .nil)
  .nil)
  .nil)
def b_grouped : Sts := (.cons (.ite (.not (.call 1 (.cons (.var 1) (.cons (.int 1) (.cons (.glob 5) .nil)))))
  (.cons (.raise 6 (.cons (.var 1) .nil))
  .nil)
  .nil)
  (.cons (.ite (.not (.call 1 (.cons (.var 2) (.cons (.int 0) (.cons (.glob 6) .nil)))))
  (.cons (.raise 2 (.cons (.var 2) .nil))
  .nil)
  .nil)
  (.cons (.asg (.name 3) (.bi .len (.cons (.fld (.var 0) 4) .nil)))
  (.cons (.asg (.name 4) (.op .fdiv (.var 1) (.call 5 (.cons (.var 3) (.cons (.var 1) .nil)))))
  (.cons (.asg (.name 5) (.op .mul (.fld (.var 0) 3) (.var 4)))
  (.cons (.expr (.call 9 (.cons (.var 5) .nil)))
  (.cons (.asg (.name 6) (.lst (.comp (.op .mod (.meth (.var 0) 5 (.cons (.op .add (.var 2) (.op .mul (.var 1) (.var 7))) .nil)) (.var 5)) (.name 7) (.rng (.cons (.op .fdiv (.op .mul (.var 3) (.var 4)) (.var 1)) .nil)) .none [7])))
  (.cons (.ret (.call 7 (.cons (.var 5) (.cons (.lb .tuple (.fresh (.sorted (.val (.var 6))))) .nil))))
  .nil))))))))
def b_inner_blocks : Sts := (.cons (.asg (.name 2) (.op .add (.meth (.var 0) 4 (.cons (.op .sub (.idx (.var 1) (.int 0)) (.int 1)) .nil)) (.int 1)))
  (.cons (.asg (.name 3) (.op .sub (.meth (.var 0) 4 (.cons (.idx (.var 1) (.int 1)) .nil)) (.int 1)))
  (.cons (.ret (.ite (.cmp .le (.var 2) (.var 3)) (.tup (.cons (.var 2) (.cons (.var 3) .nil))) .non))
  .nil)))
def b_whole_blocks : Sts := (.cons (.expr (.callD 11 [-1000, 1000] (.cons (.var 1) .nil)))
  (.cons (.ret (.call 13 (.cons (.var 0) (.cons (.var 1) .nil))))
  .nil))
def b_touched_blocks : Sts := (.cons (.expr (.callD 11 [-1000, 1000] (.cons (.var 1) .nil)))
  (.cons (.ret (.tup (.cons (.meth (.var 0) 4 (.cons (.idx (.var 1) (.int 0)) .nil)) (.cons (.meth (.var 0) 4 (.cons (.op .sub (.idx (.var 1) (.int 1)) (.int 1)) .nil)) .nil))))
  .nil))
def b_rounded_out : Sts := (.cons (.expr (.callD 11 [-1000, 1000] (.cons (.var 1) .nil)))
  (.cons (.ret (.tup (.cons (.meth (.var 0) 5 (.cons (.meth (.var 0) 4 (.cons (.idx (.var 1) (.int 0)) .nil)) .nil)) (.cons (.meth (.var 0) 5 (.cons (.op .add (.meth (.var 0) 4 (.cons (.op .sub (.idx (.var 1) (.int 1)) (.int 1)) .nil)) (.int 1)) .nil)) .nil))))
  .nil))
def b_rounded_in : Sts := (.cons (.expr (.callD 11 [-1000, 1000] (.cons (.var 1) .nil)))
  (.cons (.asg (.name 2) (.call 13 (.cons (.var 0) (.cons (.var 1) .nil))))
  (.cons (.ret (.ite (.isC true .none (.var 2)) .non (.tup (.cons (.meth (.var 0) 5 (.cons (.idx (.var 2) (.int 0)) .nil)) (.cons (.meth (.var 0) 5 (.cons (.op .add (.idx (.var 2) (.int 1)) (.int 1)) .nil)) .nil)))))
  .nil)))
def b_moved_by : Sts := (.cons (.expr (.call 6 (.cons (.var 1) .nil)))
  (.cons (.ite (.not (.call 1 (.cons (.var 2) (.cons (.neg (.glob 7)) (.cons (.glob 7) .nil)))))
  (.cons (.raise 1 (.cons (.var 2) .nil))
  .nil)
  .nil)
  (.cons (.asg (.name 3) (.meth (.var 0) 4 (.cons (.var 1) .nil)))
  (.cons (.asgT [4, 5] (.cons (.meth (.var 0) 5 (.cons (.op .add (.var 3) (.var 2)) .nil)) (.cons (.meth (.var 0) 5 (.cons (.op .add (.op .add (.var 3) (.var 2)) (.int 1)) .nil)) .nil)))
  (.cons (.ret (.bi .min2 (.cons (.op .sub (.op .add (.var 4) (.var 1)) (.meth (.var 0) 5 (.cons (.var 3) .nil))) (.cons (.op .sub (.var 5) (.int 1)) .nil))))
  .nil)))))
def b_lengths_of : Sts := (.cons (.ret (.lst (.comp (.op .sub (.meth (.var 0) 5 (.cons (.op .add (.var 1) (.int 1)) .nil)) (.meth (.var 0) 5 (.cons (.var 1) .nil))) (.name 1) (.rng (.cons (.bi .len (.cons (.fld (.var 0) 4) .nil)) .nil)) .none [1])))
  .nil)
def b_steady_lengths : Sts := (.cons (.ret (.lb .tuple (.fresh (.sortedSet (.val (.call 19 (.cons (.var 0) .nil)))))))
  .nil)
def b_longest_block : Sts := (.cons (.asg (.name 1) (.call 19 (.cons (.var 0) .nil)))
  (.cons (.ret (.bm .index (.var 1) (.cons (.lb .max (.val (.var 1))) .nil)))
  .nil))
def b_aligned : Sts := (.cons (.ite (.not (.call 1 (.cons (.var 2) (.cons (.int 0) (.cons (.glob 8) .nil)))))
  (.cons (.raise 6 (.cons (.var 2) .nil))
  .nil)
  .nil)
  (.cons (.asgT [3, 4] (.cons (.op .add (.meth (.var 0) 4 (.cons (.op .sub (.var 2) (.int 1)) .nil)) (.int 1)) (.cons (.op .add (.var 2) (.call 8 (.cons (.var 0) (.cons (.var 1) .nil)))) .nil)))
  (.cons (.while (.cmp .lt (.meth (.var 0) 5 (.cons (.var 3) .nil)) (.var 4))
  (.cons (.ite (.meth (.var 1) 1 (.cons (.meth (.var 0) 5 (.cons (.var 3) .nil)) .nil))
  (.cons (.ret (.meth (.var 0) 5 (.cons (.var 3) .nil)))
  .nil)
  .nil)
  (.cons (.asg (.name 3) (.op .add (.var 3) (.int 1)))
  .nil)))
  (.cons (.ret .non)
  .nil))))
def b__law_cell : Sts := (.cons (.ret (.ite (.cmp .lt (.var 1) (.bi .len (.cons (.var 0) .nil))) (.idx (.var 0) (.var 1)) (.op .add (.op .mul (.int 6101) (.var 1)) (.op .mod (.bi .int (.cons (.lb .sum (.val (.slc (.var 0) .none (.some (.int 1))))) .nil)) (.int 1000003)))))
  .nil)
def b__law_box : Sts := (.cons (.ret (.lst (.disp (.cons (.bi .abs (.cons (.var 0) .nil)) (.cons (.cmp .ge (.bi .abs (.cons (.var 0) .nil)) (.op .pow (.int 10) (.int 18))) (.cons (.op .mod (.bi .int (.cons (.bi .abs (.cons (.var 0) .nil)) .nil)) (.int 2147483629)) (.cons (.int 0) .nil)))))))
  .nil)
def b__law_take : Sts := (.cons (.ite (.and (.idx (.var 0) (.int 1)) (.cmp .gt (.idx (.var 0) (.int 0)) (.int 0)))
  (.cons (.asg (.name 2) (.op .mod (.bi .int (.cons (.idx (.var 0) (.int 0)) .nil)) (.var 1)))
  (.cons (.idxSet (.var 0) (.int 0) (.op .fdiv (.idx (.var 0) (.int 0)) (.var 1)))
  (.cons (.ret (.var 2))
  .nil)))
  .nil)
  (.cons (.idxSet (.var 0) (.int 3) (.op .add (.idx (.var 0) (.int 3)) (.int 1)))
  (.cons (.asg (.name 3) (.op .mod (.bi .int (.cons (.op .pow (.op .add (.op .add (.idx (.var 0) (.int 2)) (.op .mul (.int 15485867) (.idx (.var 0) (.int 3)))) (.int 179424691)) (.int 5)) .nil)) (.int 2147483647)))
  (.cons (.ret (.op .mod (.bi .int (.cons (.op .fdiv (.op .mod (.bi .int (.cons (.op .pow (.op .add (.op .mul (.var 3) (.int 48271)) (.op .mul (.int 104743) (.idx (.var 0) (.int 3)))) (.int 3)) .nil)) (.int 2147483587)) (.int 64)) .nil)) (.var 1)))
  .nil))))
def b__law_same : Sts := (.cons (.ite (.or (.isC true .none (.var 1)) (.bi (.isi .bool) (.cons (.var 1) .nil)))
  (.cons (.ret (.ite (.isC true .none (.var 1)) (.isC true .none (.var 0)) (.and (.bi (.isi .bool) (.cons (.var 0) .nil)) (.cmp .eq (.isC true (.some true) (.var 0)) (.isC true (.some true) (.var 1))))))
  .nil)
  .nil)
  (.cons (.ite (.bi (.isi .int) (.cons (.var 1) .nil))
  (.cons (.ret (.and (.bi (.isi .int) (.cons (.var 0) .nil)) (.and (.not (.bi (.isi .bool) (.cons (.var 0) .nil))) (.cmp .eq (.op .sub (.bi .int (.cons (.var 0) .nil)) (.var 1)) (.int 0)))))
  .nil)
  .nil)
  (.cons (.ite (.bi (.isi .str) (.cons (.var 1) .nil))
  (.cons (.ret (.and (.bi (.isi .str) (.cons (.var 0) .nil)) (.and (.cmp .eq (.bi .len (.cons (.var 0) .nil)) (.bi .len (.cons (.var 1) .nil))) (.eqS true (.fresh (.comp (.var 2) (.name 2) (.rng (.cons (.bi .len (.cons (.var 1) .nil)) .nil)) (.some (.cmp .ne (.slc (.var 0) (.some (.var 2)) (.some (.op .add (.var 2) (.int 1)))) (.idx (.var 1) (.var 2)))) [2])) (.fresh (.disp .nil))))))
  .nil)
  .nil)
  (.cons (.ite (.bi (.isi .dict) (.cons (.var 1) .nil))
  (.cons (.ret (.and (.bi (.isi .dict) (.cons (.var 0) .nil)) (.call 26 (.cons (.lst (.litems (.var 0))) (.cons (.lst (.litems (.var 1))) .nil)))))
  .nil)
  .nil)
  (.cons (.ite (.or (.cmp .ne (.bi (.isi .list) (.cons (.var 0) .nil)) (.bi (.isi .list) (.cons (.var 1) .nil))) (.cmp .ne (.bi (.isi .tuple) (.cons (.var 0) .nil)) (.bi (.isi .tuple) (.cons (.var 1) .nil))))
  (.cons (.ret (.bl false))
  .nil)
  .nil)
  (.cons (.ite (.or (.not (.bi (.isi .lt) (.cons (.var 0) .nil))) (.cmp .ne (.bi .len (.cons (.var 0) .nil)) (.bi .len (.cons (.var 1) .nil))))
  (.cons (.ret (.bl false))
  .nil)
  .nil)
  (.cons (.ret (.eqS true (.fresh (.comp (.var 2) (.name 2) (.rng (.cons (.bi .len (.cons (.var 1) .nil)) .nil)) (.some (.not (.call 26 (.cons (.idx (.var 0) (.var 2)) (.cons (.idx (.var 1) (.var 2)) .nil))))) [2])) (.fresh (.disp .nil))))
  .nil)))))))
def b__law_interval : Sts := (.cons (.asg (.name 3) (.op .add (.var 1) (.call 25 (.cons (.var 0) (.cons (.op .sub (.var 2) (.var 1)) .nil)))))
  (.cons (.ret (.tup (.cons (.var 3) (.cons (.op .add (.op .add (.var 3) (.int 1)) (.call 25 (.cons (.var 0) (.cons (.op .sub (.var 2) (.var 3)) .nil)))) .nil))))
  .nil))
def b__law_copy : Sts := (.cons (.ite (.bi (.isi .list) (.cons (.var 0) .nil))
  (.cons (.ret (.lst (.comp (.call 28 (.cons (.var 1) .nil)) (.name 1) (.seq (.val (.var 0))) .none [1])))
  .nil)
  .nil)
  (.cons (.ite (.bi (.isi .tuple) (.cons (.var 0) .nil))
  (.cons (.ret (.lb .tuple (.fresh (.comp (.call 28 (.cons (.var 1) .nil)) (.name 1) (.seq (.val (.var 0))) .none [1]))))
  .nil)
  .nil)
  (.cons (.ret (.ite (.bi (.isi .dict) (.cons (.var 0) .nil)) (.lb .dict (.fresh (.comp (.tup (.cons (.var 2) (.cons (.call 28 (.cons (.idx (.var 0) (.var 2)) .nil)) .nil))) (.name 2) (.seq (.val (.var 0))) .none [2]))) (.var 0)))
  .nil)))
def b__law_blamed : Sts := (.cons (.ite (.not (.call 26 (.cons (.var 0) (.cons (.var 1) .nil))))
  (.cons (.ret (.bl false))
  .nil)
  .nil)
  (.cons (.ite (.bi (.isi .list) (.cons (.var 1) .nil))
  (.cons (.expr (.bm .append (.var 1) (.cons (.int 7) .nil)))
  .nil)
  .nil)
  (.cons (.ite (.bi (.isi .dict) (.cons (.var 1) .nil))
  (.cons (.idxSet (.var 1) (.str (PySem.Str.ofString "more")) (.int 7))
  .nil)
  .nil)
  (.cons (.ret (.call 26 (.cons (.var 0) (.cons (.var 1) .nil))))
  .nil))))
def b__law_kept : Sts := (.cons (.ret (.and (.call 26 (.cons (.lst (.disp (.cons (.idx (.var 0) (.int 0)) (.cons (.and (.cmp .eq (.bi .len (.cons (.var 0) .nil)) (.int 3)) (.idx (.var 0) (.int 2))) .nil)))) (.cons (.lst (.disp (.cons (.var 1) (.cons (.bl true) .nil)))) .nil))) (.call 29 (.cons (.idx (.var 0) (.int 1)) (.cons (.var 2) .nil)))))
  .nil)
def b__law_grain : Sts := (.cons (.asg (.name 2) (.idx (.lst (.disp (.cons (.op .add (.int 1) (.call 25 (.cons (.var 0) (.cons (.int 12) .nil)))) (.cons (.int 24) (.cons (.op .add (.int 1) (.call 25 (.cons (.var 0) (.cons (.int 60) .nil)))) (.cons (.int 12) (.cons (.int 360) (.cons (.op .mul (.int 6) (.op .add (.int 1) (.call 25 (.cons (.var 0) (.cons (.int 6) .nil))))) .nil)))))))) (.op .mod (.var 1) (.int 6))))
  (.cons (.ite (.cmp .eq (.op .mod (.var 1) (.int 6)) (.int 3))
  (.cons (.asg (.name 3) (.idx (.lst (.disp (.cons (.int 1) (.cons (.int 2) (.cons (.int 3) (.cons (.int 4) (.cons (.int 6) (.cons (.int 12) .nil)))))))) (.call 25 (.cons (.var 0) (.cons (.int 6) .nil)))))
  (.cons (.asg (.name 4) (.call 25 (.cons (.var 0) (.cons (.var 3) .nil))))
  (.cons (.ret (.tup (.cons (.int 12) (.cons (.lb .tuple (.fresh (.lrng (.cons (.var 4) (.cons (.int 12) (.cons (.var 3) .nil)))))) .nil))))
  .nil)))
  .nil)
  (.cons (.asg (.name 5) (.lst (.sortedSet (.fresh (.comp (.call 25 (.cons (.var 0) (.cons (.var 2) .nil))) (.name 6) (.rng (.cons (.op .add (.int 1) (.call 25 (.cons (.var 0) (.cons (.idx (.lst (.disp (.cons (.int 4) (.cons (.int 3) (.cons (.int 9) (.cons (.int 1) (.cons (.int 5) (.cons (.int 2) .nil)))))))) (.op .mod (.var 1) (.int 6))) .nil)))) .nil)) .none [6])))))
  (.cons (.ret (.tup (.cons (.var 2) (.cons (.bi .tuple (.cons (.var 5) .nil)) .nil))))
  .nil))))
def b__law_at : Sts := (.cons (.asg (.cons (.name 2) (.cons (.name 3) .nil)) (.var 0))
  (.cons (.asgT [4, 5] (.cons (.op .fdiv (.bi .int (.cons (.var 1) .nil)) (.var 2)) (.cons (.op .mod (.bi .int (.cons (.var 1) .nil)) (.var 2)) .nil)))
  (.cons (.asg (.name 6) (.lst (.comp (.var 7) (.name 7) (.rng (.cons (.bi .len (.cons (.var 3) .nil)) .nil)) (.some (.cmp .le (.idx (.var 3) (.var 7)) (.var 5))) [7])))
  (.cons (.asg (.name 8) (.ite (.eqS false (.val (.var 6)) (.fresh (.disp .nil))) (.idx (.var 6) (.neg (.int 1))) (.neg (.int 1))))
  (.cons (.ret (.call 33 (.cons (.var 0) (.cons (.op .add (.op .mul (.var 4) (.bi .len (.cons (.var 3) .nil))) (.var 8)) .nil))))
  .nil)))))
def b__law_span : Sts := (.cons (.asg (.cons (.name 2) (.cons (.name 3) .nil)) (.var 0))
  (.cons (.asg (.name 4) (.lst (.comp (.op .add (.op .mul (.op .fdiv (.bi .int (.cons (.var 5) .nil)) (.bi .len (.cons (.var 3) .nil))) (.var 2)) (.idx (.var 3) (.op .mod (.bi .int (.cons (.var 5) .nil)) (.bi .len (.cons (.var 3) .nil))))) (.name 5) (.seq (.val (.tup (.cons (.var 1) (.cons (.op .add (.var 1) (.int 1)) .nil))))) .none [5])))
  (.cons (.ret (.lst (.disp (.cons (.var 1) (.cons (.idx (.var 4) (.int 0)) (.cons (.idx (.var 4) (.int 1)) .nil))))))
  .nil)))
def b__law_form : Sts := (.cons (.asg (.cons (.name 1) (.cons (.name 2) .nil)) (.var 0))
  (.cons (.asg (.name 3) (.lb .dict (.fresh (.comp (.tup (.cons (.var 4) (.cons (.bl true) .nil))) (.name 4) (.seq (.val (.var 2))) .none [4]))))
  (.cons (.for (.name 5) (.seq (.fresh (.comp (.var 5) (.name 5) (.rng (.cons (.int 1) (.cons (.op .add (.var 1) (.int 1)) .nil))) (.some (.cmp .eq (.op .mod (.bi .int (.cons (.var 1) .nil)) (.var 5)) (.int 0))) [5])))
  (.cons (.ite (.eqS true (.fresh (.comp (.var 4) (.name 4) (.rng (.cons (.var 1) .nil)) (.some (.cmp .ne (.inS true (.op .mod (.bi .int (.cons (.var 4) .nil)) (.var 5)) (.val (.var 3))) (.inS true (.var 4) (.val (.var 3))))) [4])) (.fresh (.disp .nil)))
  (.cons (.ret (.tup (.cons (.var 5) (.cons (.lb .tuple (.fresh (.comp (.var 4) (.name 4) (.seq (.val (.var 2))) (.some (.cmp .lt (.var 4) (.var 5))) [4]))) .nil))))
  .nil)
  .nil)
  .nil))
  (.cons (.ret (.var 0))
  .nil))))
def b__law_common : Sts := (.cons (.asgT [2, 3] (.cons (.var 0) (.cons (.var 1) .nil)))
  (.cons (.while (.cmp .ne (.var 3) (.int 0))
  (.cons (.asgT [2, 3] (.cons (.var 3) (.cons (.op .mod (.bi .int (.cons (.var 2) .nil)) (.var 3)) .nil)))
  .nil))
  (.cons (.ret (.op .fdiv (.op .mul (.var 0) (.var 1)) (.var 2)))
  .nil)))
def b__law_no_number : Sts := (.cons (.asg (.name 3) (.lst (.disp (.cons (.op .sub (.var 1) (.int 1)) (.cons (.op .add (.var 2) (.int 1)) (.cons .non (.cons (.bl true) (.cons (.str (PySem.Str.ofString "3")) (.cons (.tup (.cons (.int 3) .nil)) (.cons (.lst (.disp (.cons (.int 3) .nil))) (.cons .dct0 (.cons (.op .pow (.int 10) (.int 28)) (.cons (.tup .nil) (.cons (.bl false) .nil))))))))))))))
  (.cons (.ret (.idx (.var 3) (.call 25 (.cons (.var 0) (.cons (.int 11) .nil)))))
  .nil))
def b__law_asked : Sts := (.cons (.try (.cons (.ite (.cmp .eq (.var 0) (.int 0))
  (.cons (.ret (.lst (.disp (.cons (.str (PySem.Str.ofString "told")) (.cons (.ite (.var 4) (.callK 12 [2, 1, 0] (.cons (.var 3) (.cons (.var 2) (.cons (.var 1) .nil)))) (.call 12 (.cons (.var 1) (.cons (.var 2) (.cons (.var 3) .nil))))) .nil)))))
  .nil)
  .nil)
  (.cons (.ite (.cmp .eq (.var 0) (.int 1))
  (.cons (.ret (.lst (.disp (.cons (.str (PySem.Str.ofString "told")) (.cons (.ite (.var 4) (.callK 14 [1, 0] (.cons (.var 2) (.cons (.var 1) .nil))) (.call 14 (.cons (.var 1) (.cons (.var 2) .nil)))) .nil)))))
  .nil)
  .nil)
  (.cons (.ite (.cmp .eq (.var 0) (.int 2))
  (.cons (.ret (.lst (.disp (.cons (.str (PySem.Str.ofString "told")) (.cons (.ite (.var 4) (.callK 15 [1, 0] (.cons (.var 2) (.cons (.var 1) .nil))) (.call 15 (.cons (.var 1) (.cons (.var 2) .nil)))) .nil)))))
  .nil)
  .nil)
  (.cons (.ite (.cmp .eq (.var 0) (.int 3))
  (.cons (.ret (.lst (.disp (.cons (.str (PySem.Str.ofString "told")) (.cons (.ite (.var 4) (.callK 16 [1, 0] (.cons (.var 2) (.cons (.var 1) .nil))) (.call 16 (.cons (.var 1) (.cons (.var 2) .nil)))) .nil)))))
  .nil)
  .nil)
  (.cons (.ite (.cmp .eq (.var 0) (.int 4))
  (.cons (.ret (.lst (.disp (.cons (.str (PySem.Str.ofString "told")) (.cons (.ite (.var 4) (.callK 17 [1, 0] (.cons (.var 2) (.cons (.var 1) .nil))) (.call 17 (.cons (.var 1) (.cons (.var 2) .nil)))) .nil)))))
  .nil)
  .nil)
  (.cons (.ite (.cmp .eq (.var 0) (.int 5))
  (.cons (.ret (.lst (.disp (.cons (.str (PySem.Str.ofString "told")) (.cons (.ite (.var 4) (.callK 18 [2, 1, 0] (.cons (.var 3) (.cons (.var 2) (.cons (.var 1) .nil)))) (.call 18 (.cons (.var 1) (.cons (.var 2) (.cons (.var 3) .nil))))) .nil)))))
  .nil)
  .nil)
  (.cons (.ret (.lst (.disp (.cons (.str (PySem.Str.ofString "told")) (.cons (.ite (.var 4) (.callK 22 [2, 1, 0] (.cons (.var 3) (.cons (.var 2) (.cons (.var 1) .nil)))) (.call 22 (.cons (.var 1) (.cons (.var 2) (.cons (.var 3) .nil))))) .nil)))))
  .nil)))))))
  [⟨6, 5, [.str (PySem.Str.ofString "number"), .fld 1, .isA [(.cls 0)]]⟩, ⟨2, 5, [.str (PySem.Str.ofString "first"), .fld 1, .isA [(.cls 0)]]⟩, ⟨4, 5, [.str (PySem.Str.ofString "interval"), .fld 1, .isA [(.cls 0)]]⟩, ⟨1, 5, [.str (PySem.Str.ofString "blocks"), .fld 1, .isA [(.cls 0)]]⟩, ⟨8, 5, [.str (PySem.Str.ofString "large"), .fld 2, .isA [(.cls 0), .verr]]⟩])
  .nil)
def b__law_both : Sts := (.cons (.ret (.call 26 (.cons (.lst (.comp (.call 37 (.cons (.var 0) (.cons (.var 1) (.cons (.var 2) (.cons (.var 3) (.cons (.var 5) .nil)))))) (.name 5) (.seq (.val (.tup (.cons (.bl false) (.cons (.bl true) .nil))))) .none [5])) (.cons (.lst (.disp (.cons (.var 4) (.cons (.var 4) .nil)))) .nil))))
  .nil)
def b__law_grouped_right : Sts := (.cons (.asg (.name 3) (.bi .len (.cons (.idx (.var 2) (.int 1)) .nil)))
  (.cons (.for (.name 4) (.rng (.cons (.int 3) .nil))
  (.cons (.asgT [5, 6] (.cons (.idx (.lst (.disp (.cons (.op .add (.int 1) (.call 25 (.cons (.var 0) (.cons (.int 24) .nil)))) (.cons (.var 3) (.cons (.int 1) (.cons (.int 24) .nil)))))) (.call 25 (.cons (.var 0) (.cons (.int 4) .nil)))) (.cons (.call 25 (.cons (.var 0) (.cons (.int 24) .nil))) .nil)))
  (.cons (.asg (.name 5) (.bi .min2 (.cons (.int 24) (.cons (.var 5) .nil))))
  (.cons (.asg (.name 7) (.op .mul (.idx (.var 2) (.int 0)) (.op .fdiv (.call 35 (.cons (.var 3) (.cons (.var 5) .nil))) (.var 3))))
  (.cons (.asg (.name 8) (.call 37 (.cons (.int 0) (.cons (.var 1) (.cons (.var 5) (.cons (.var 6) (.cons (.cmp .eq (.call 25 (.cons (.var 0) (.cons (.int 2) .nil))) (.int 0)) .nil)))))))
  (.cons (.ite (.cmp .gt (.var 7) (.int 3600))
  (.cons (.ite (.not (.call 26 (.cons (.var 8) (.cons (.lst (.disp (.cons (.str (PySem.Str.ofString "large")) (.cons (.var 7) (.cons (.bl true) .nil))))) .nil))))
  (.cons (.ret (.bl false))
  .nil)
  .nil)
  .nil)
  (.cons (.asg (.name 9) (.lst (.comp (.idx (.call 33 (.cons (.var 2) (.cons (.op .add (.var 6) (.op .mul (.var 5) (.var 10))) .nil))) (.int 1)) (.name 10) (.rng (.cons (.op .fdiv (.op .mul (.op .fdiv (.var 7) (.idx (.var 2) (.int 0))) (.var 3)) (.var 5)) .nil)) .none [10])))
  (.cons (.asg (.name 11) (.tup (.cons (.var 7) (.cons (.lb .tuple (.fresh (.sorted (.fresh (.comp (.op .mod (.bi .int (.cons (.var 12) .nil)) (.var 7)) (.name 12) (.seq (.val (.var 9))) .none [12]))))) .nil))))
  (.cons (.ite (.or (.cmp .ne (.idx (.var 8) (.int 0)) (.str (PySem.Str.ofString "told"))) (.or (.not (.bi (.isi (.cls 9)) (.cons (.idx (.var 8) (.int 1)) .nil))) (.not (.call 26 (.cons (.lst (.comp (.meth (.idx (.var 8) (.int 1)) 2 (.cons (.var 13) .nil)) (.name 13) (.seq (.val (.tup (.cons (.int 0) (.cons (.neg (.int 1)) (.cons (.int 700) (.cons (.neg (.int 3000)) .nil))))))) .none [13])) (.cons (.lst (.comp (.idx (.call 32 (.cons (.var 11) (.cons (.var 13) .nil))) (.int 0)) (.name 13) (.seq (.val (.tup (.cons (.int 0) (.cons (.neg (.int 1)) (.cons (.int 700) (.cons (.neg (.int 3000)) .nil))))))) .none [13])) .nil))))))
  (.cons (.ret (.bl false))
  .nil)
  .nil)
  (.cons (.asg (.name 14) (.lst (.comp (.meth (.idx (.var 8) (.int 1)) 6 (.cons (.var 10) .nil)) (.name 10) (.seq (.val (.tup (.cons (.int 0) (.cons (.int 1) (.cons (.neg (.int 1)) (.cons (.int 50) .nil))))))) .none [10])))
  (.cons (.ite (.not (.call 26 (.cons (.var 14) (.cons (.lst (.comp (.bi .tuple (.cons (.slc (.call 33 (.cons (.var 11) (.cons (.var 10) .nil))) (.some (.int 1)) .none) .nil)) (.name 10) (.seq (.val (.tup (.cons (.int 0) (.cons (.int 1) (.cons (.neg (.int 1)) (.cons (.int 50) .nil))))))) .none [10])) .nil))))
  (.cons (.ret (.bl false))
  .nil)
  .nil)
  (.cons (.ite (.and (.cmp .lt (.bi .len (.cons (.idx (.var 11) (.int 1)) .nil)) (.int 100)) (.not (.call 26 (.cons (.meth (.idx (.var 8) (.int 1)) 3 .nil) (.cons (.call 34 (.cons (.var 11) .nil)) .nil)))))
  (.cons (.ret (.bl false))
  .nil)
  .nil)
  .nil)))))))
  .nil))))))
  (.cons (.ret (.bl true))
  .nil)))
def b__law_interval_of : Sts := (.cons (.asgT [2, 3] (.cons (.call 25 (.cons (.var 0) (.cons (.int 5) .nil))) (.cons (.op .sub (.call 25 (.cons (.var 0) (.cons (.int 9) .nil))) (.int 4)) .nil)))
  (.cons (.asg (.cons (.name 4) (.cons (.name 5) .nil)) (.slc (.call 33 (.cons (.var 1) (.cons (.var 3) .nil))) (.some (.int 1)) .none))
  (.cons (.ite (.cmp .eq (.var 2) (.int 1))
  (.cons (.asg (.name 5) (.op .add (.op .add (.var 4) (.int 1)) (.call 25 (.cons (.var 0) (.cons (.bi .max2 (.cons (.int 1) (.cons (.op .sub (.var 5) (.var 4)) .nil))) .nil)))))
  .nil)
  .nil)
  (.cons (.ite (.cmp .eq (.var 2) (.int 2))
  (.cons (.asg (.name 5) (.idx (.call 33 (.cons (.var 1) (.cons (.op .add (.var 3) (.call 25 (.cons (.var 0) (.cons (.int 3) .nil)))) .nil))) (.int 2)))
  .nil)
  .nil)
  (.cons (.ite (.cmp .eq (.var 2) (.int 3))
  (.cons (.asgT [4, 5] (.cons (.op .add (.var 4) (.int 1)) (.cons (.op .add (.idx (.call 33 (.cons (.var 1) (.cons (.op .add (.var 3) (.int 1)) .nil))) (.int 2)) (.int 1)) .nil)))
  .nil)
  .nil)
  (.cons (.ite (.or (.cmp .eq (.var 2) (.int 0)) (.not (.chain3 (.neg (.int 1001)) .lt (.var 4) .lt (.var 5) .lt (.int 1001))))
  (.cons (.ret (.ite (.cmp .gt (.call 25 (.cons (.var 0) (.cons (.int 4) .nil))) (.int 0)) (.call 27 (.cons (.var 0) (.cons (.neg (.int 60)) (.cons (.int 90) .nil)))) (.idx (.lst (.disp (.cons (.tup (.cons (.neg (.int 1000)) (.cons (.int 1000) .nil))) (.cons (.tup (.cons (.int 999) (.cons (.int 1000) .nil))) (.cons (.tup (.cons (.neg (.int 1000)) (.cons (.neg (.int 999)) .nil))) (.cons (.tup (.cons (.neg (.int 1)) (.cons (.int 0) .nil))) .nil)))))) (.call 25 (.cons (.var 0) (.cons (.int 4) .nil))))))
  .nil)
  .nil)
  (.cons (.ret (.tup (.cons (.var 4) (.cons (.var 5) .nil))))
  .nil)))))))
def b__law_rounded_right : Sts := (.cons (.for (.name 3) (.rng (.cons (.int 4) .nil))
  (.cons (.asg (.name 4) (.call 40 (.cons (.var 0) (.cons (.var 2) .nil))))
  (.cons (.asgT [5, 6] (.cons (.call 32 (.cons (.var 2) (.cons (.idx (.var 4) (.int 0)) .nil))) (.cons (.call 32 (.cons (.var 2) (.cons (.op .sub (.idx (.var 4) (.int 1)) (.int 1)) .nil))) .nil)))
  (.cons (.asg (.name 7) (.ite (.cmp .eq (.idx (.var 5) (.int 1)) (.idx (.var 4) (.int 0))) (.idx (.var 5) (.int 0)) (.op .add (.idx (.var 5) (.int 0)) (.int 1))))
  (.cons (.asg (.name 8) (.ite (.cmp .eq (.idx (.var 6) (.int 2)) (.idx (.var 4) (.int 1))) (.idx (.var 6) (.int 0)) (.op .sub (.idx (.var 6) (.int 0)) (.int 1))))
  (.cons (.asg (.name 9) (.ite (.cmp .le (.var 7) (.var 8)) (.tup (.cons (.var 7) (.cons (.var 8) .nil))) .non))
  (.cons (.asg (.name 10) (.ite (.isC false .none (.var 9)) (.tup (.cons (.idx (.call 33 (.cons (.var 2) (.cons (.var 7) .nil))) (.int 1)) (.cons (.idx (.call 33 (.cons (.var 2) (.cons (.var 8) .nil))) (.int 2)) .nil))) .non))
  (.cons (.asg (.name 11) (.lst (.disp (.cons (.lst (.disp (.cons (.str (PySem.Str.ofString "told")) (.cons (.var 9) .nil)))) (.cons (.lst (.disp (.cons (.str (PySem.Str.ofString "told")) (.cons (.tup (.cons (.idx (.var 5) (.int 0)) (.cons (.idx (.var 6) (.int 0)) .nil))) .nil)))) (.cons (.lst (.disp (.cons (.str (PySem.Str.ofString "told")) (.cons (.tup (.cons (.idx (.var 5) (.int 1)) (.cons (.idx (.var 6) (.int 2)) .nil))) .nil)))) (.cons (.lst (.disp (.cons (.str (PySem.Str.ofString "told")) (.cons (.var 10) .nil)))) .nil)))))))
  (.cons (.for (.name 12) (.rng (.cons (.int 4) .nil))
  (.cons (.ite (.not (.call 38 (.cons (.op .add (.int 1) (.var 12)) (.cons (.var 1) (.cons (.var 4) (.cons .non (.cons (.idx (.var 11) (.var 12)) .nil)))))))
  (.cons (.ret (.bl false))
  .nil)
  .nil)
  .nil))
  .nil)))))))))
  (.cons (.ret (.bl true))
  .nil))
def b__law_moved_right : Sts := (.cons (.for (.name 3) (.rng (.cons (.int 4) .nil))
  (.cons (.asg (.name 4) (.ite (.cmp .gt (.var 3) (.int 0)) (.idx (.lst (.disp (.cons (.op .sub (.call 25 (.cons (.var 0) (.cons (.int 400) .nil))) (.int 200)) (.cons (.op .pow (.int 10) (.int 18)) (.cons (.neg (.op .pow (.int 10) (.int 18))) (.cons (.int 0) .nil)))))) (.call 25 (.cons (.var 0) (.cons (.int 4) .nil)))) (.op .sub (.call 25 (.cons (.var 0) (.cons (.int 90) .nil))) (.int 30))))
  (.cons (.asg (.name 5) (.ite (.cmp .gt (.var 3) (.int 1)) (.idx (.lst (.disp (.cons (.op .sub (.call 25 (.cons (.var 0) (.cons (.int 11) .nil))) (.int 5)) (.cons (.int 1000) (.cons (.neg (.int 1000)) (.cons (.int 0) .nil)))))) (.call 25 (.cons (.var 0) (.cons (.int 4) .nil)))) (.op .sub (.call 25 (.cons (.var 0) (.cons (.int 7) .nil))) (.int 3))))
  (.cons (.asg (.cons (.name 6) (.cons (.name 7) (.cons (.name 8) .nil))) (.call 32 (.cons (.var 2) (.cons (.var 4) .nil))))
  (.cons (.asg (.name 9) (.call 33 (.cons (.var 2) (.cons (.op .add (.var 6) (.var 5)) .nil))))
  (.cons (.ite (.not (.call 38 (.cons (.int 5) (.cons (.var 1) (.cons (.var 4) (.cons (.var 5) (.cons (.lst (.disp (.cons (.str (PySem.Str.ofString "told")) (.cons (.bi .min2 (.cons (.op .sub (.op .add (.idx (.var 9) (.int 1)) (.var 4)) (.var 7)) (.cons (.op .sub (.idx (.var 9) (.int 2)) (.int 1)) .nil))) .nil)))) .nil)))))))
  (.cons (.ret (.bl false))
  .nil)
  .nil)
  .nil))))))
  (.cons (.asg (.name 10) (.lst (.comp (.op .sub (.idx (.call 33 (.cons (.var 2) (.cons (.var 11) .nil))) (.int 2)) (.idx (.call 33 (.cons (.var 2) (.cons (.var 11) .nil))) (.int 1))) (.name 11) (.rng (.cons (.bi .len (.cons (.idx (.var 2) (.int 1)) .nil)) .nil)) .none [11])))
  (.cons (.asg (.name 12) (.lst (.disp (.cons (.call 20 (.cons (.var 1) .nil)) (.cons (.callK 20 [0] (.cons (.var 1) .nil)) (.cons (.call 21 (.cons (.var 1) .nil)) (.cons (.callK 21 [0] (.cons (.var 1) .nil)) .nil)))))))
  (.cons (.asg (.name 13) (.lb .tuple (.fresh (.sortedSet (.val (.var 10))))))
  (.cons (.ret (.call 26 (.cons (.var 12) (.cons (.lst (.disp (.cons (.var 13) (.cons (.var 13) (.cons (.bm .index (.var 10) (.cons (.lb .max (.val (.var 10))) .nil)) (.cons (.bm .index (.var 10) (.cons (.lb .max (.val (.var 10))) .nil)) .nil)))))) .nil))))
  .nil)))))
def b__law_aligned_right : Sts := (.cons (.asgT [3, 4] (.cons (.new 9 (.cons (.idx (.var 1) (.int 0)) (.cons (.idx (.var 1) (.int 1)) .nil))) (.cons (.newK 9 [0, 1] (.cons (.idx (.var 2) (.int 0)) (.cons (.idx (.var 2) (.int 1)) .nil))) .nil)))
  (.cons (.asg (.name 5) (.call 35 (.cons (.idx (.var 1) (.int 0)) (.cons (.idx (.var 2) (.int 0)) .nil))))
  (.cons (.ite (.cmp .gt (.var 5) (.int 5000))
  (.cons (.ret (.bl true))
  .nil)
  .nil)
  (.cons (.asg (.name 6) (.lst (.comp (.var 7) (.name 7) (.rng (.cons (.var 5) .nil)) (.some (.and (.inS true (.op .mod (.bi .int (.cons (.var 7) .nil)) (.idx (.var 1) (.int 0))) (.val (.idx (.var 1) (.int 1)))) (.inS true (.op .mod (.bi .int (.cons (.var 7) .nil)) (.idx (.var 2) (.int 0))) (.val (.idx (.var 2) (.int 1)))))) [7])))
  (.cons (.for (.name 8) (.rng (.cons (.int 3) .nil))
  (.cons (.asg (.name 9) (.idx (.lst (.disp (.cons (.int 0) (.cons (.call 25 (.cons (.var 0) (.cons (.int 300) .nil))) (.cons (.op .pow (.int 10) (.int 12)) (.cons (.op .mul (.call 25 (.cons (.var 0) (.cons (.op .pow (.int 10) (.int 9)) .nil))) (.int 999)) .nil)))))) (.call 25 (.cons (.var 0) (.cons (.int 4) .nil)))))
  (.cons (.asg (.name 10) (.op .mod (.bi .int (.cons (.var 9) .nil)) (.var 5)))
  (.cons (.asg (.name 11) (.lst (.cat (.fresh (.comp (.var 7) (.name 7) (.seq (.val (.var 6))) (.some (.cmp .ge (.var 7) (.var 10))) [7])) (.fresh (.comp (.op .add (.var 7) (.var 5)) (.name 7) (.seq (.val (.slc (.var 6) .none (.some (.int 1))))) .none [7])))))
  (.cons (.asg (.name 12) (.lst (.disp (.cons (.str (PySem.Str.ofString "told")) (.cons (.ite (.eqS false (.val (.var 11)) (.fresh (.disp .nil))) (.op .add (.op .sub (.var 9) (.var 10)) (.idx (.var 11) (.int 0))) .non) .nil)))))
  (.cons (.ite (.not (.call 38 (.cons (.int 6) (.cons (.var 3) (.cons (.var 4) (.cons (.var 9) (.cons (.var 12) .nil)))))))
  (.cons (.ret (.bl false))
  .nil)
  .nil)
  .nil))))))
  (.cons (.ret (.bl true))
  .nil))))))
def b__law_refused_right : Sts := (.cons (.asgT [2, 3] (.cons (.new 9 (.cons (.idx (.var 1) (.int 0)) (.cons (.idx (.var 1) (.int 1)) .nil))) (.cons (.cmp .eq (.call 25 (.cons (.var 0) (.cons (.int 2) .nil))) (.int 0)) .nil)))
  (.cons (.for (.name 4) (.rng (.cons (.int 2) .nil))
  (.cons (.asgT [5, 6] (.cons (.call 36 (.cons (.var 0) (.cons (.int 1) (.cons (.int 24) .nil)))) (.cons (.call 36 (.cons (.var 0) (.cons (.int 0) (.cons (.int 23) .nil)))) .nil)))
  (.cons (.ite (.or (.not (.call 30 (.cons (.call 37 (.cons (.int 0) (.cons (.var 2) (.cons (.var 5) (.cons (.idx (.lst (.disp (.cons (.call 28 (.cons (.var 6) .nil)) (.cons (.int 0) .nil)))) (.call 25 (.cons (.var 0) (.cons (.int 2) .nil)))) (.cons (.var 3) .nil)))))) (.cons (.str (PySem.Str.ofString "number")) (.cons (.var 5) .nil))))) (.not (.call 30 (.cons (.call 37 (.cons (.int 0) (.cons (.var 2) (.cons (.int 1) (.cons (.var 6) (.cons (.not (.var 3)) .nil)))))) (.cons (.str (PySem.Str.ofString "first")) (.cons (.var 6) .nil))))))
  (.cons (.ret (.bl false))
  .nil)
  .nil)
  (.cons (.for (.name 7) (.rng (.cons (.int 1) (.cons (.int 5) .nil)))
  (.cons (.asg (.name 6) (.idx (.lst (.disp (.cons .non (.cons (.int 5) (.cons (.str (PySem.Str.ofString "0-3")) (.cons (.tup (.cons (.int 3) (.cons (.int 3) .nil))) (.cons (.tup (.cons (.int 4) (.cons (.int 2) .nil))) (.cons (.tup (.cons (.neg (.int 1001)) (.cons (.int 3) .nil))) (.cons (.tup (.cons (.int 0) (.cons (.int 1001) .nil))) (.cons (.tup (.cons (.int 1) (.cons (.int 2) (.cons (.int 3) .nil)))) (.cons (.lst (.disp (.cons (.int 1) (.cons (.int 4) .nil)))) (.cons (.tup (.cons (.bl true) (.cons (.int 4) .nil))) (.cons .dct0 (.cons (.tup (.cons .non (.cons (.int 3) .nil))) .nil)))))))))))))) (.call 25 (.cons (.var 0) (.cons (.int 12) .nil)))))
  (.cons (.ite (.not (.call 30 (.cons (.call 37 (.cons (.var 7) (.cons (.var 2) (.cons (.var 6) (.cons .non (.cons (.var 3) .nil)))))) (.cons (.str (PySem.Str.ofString "interval")) (.cons (.var 6) .nil)))))
  (.cons (.ret (.bl false))
  .nil)
  .nil)
  .nil)))
  (.cons (.asgT [5, 6] (.cons (.call 36 (.cons (.var 0) (.cons (.neg (.op .pow (.int 10) (.int 18))) (.cons (.op .pow (.int 10) (.int 18)) .nil)))) (.cons (.call 36 (.cons (.var 0) (.cons (.neg (.int 1000)) (.cons (.int 1000) .nil)))) .nil)))
  (.cons (.ite (.or (.not (.call 30 (.cons (.call 37 (.cons (.int 5) (.cons (.var 2) (.cons (.var 5) (.cons (.idx (.lst (.disp (.cons (.call 28 (.cons (.var 6) .nil)) (.cons (.int 0) .nil)))) (.call 25 (.cons (.var 0) (.cons (.int 2) .nil)))) (.cons (.var 3) .nil)))))) (.cons (.str (PySem.Str.ofString "number")) (.cons (.var 5) .nil))))) (.not (.call 30 (.cons (.call 37 (.cons (.int 5) (.cons (.var 2) (.cons (.int 0) (.cons (.var 6) (.cons (.not (.var 3)) .nil)))))) (.cons (.str (PySem.Str.ofString "blocks")) (.cons (.var 6) .nil))))))
  (.cons (.ret (.bl false))
  .nil)
  .nil)
  (.cons (.asg (.name 5) (.call 36 (.cons (.var 0) (.cons (.int 0) (.cons (.op .pow (.int 10) (.int 12)) .nil)))))
  (.cons (.ite (.not (.call 30 (.cons (.call 37 (.cons (.int 6) (.cons (.var 2) (.cons (.var 2) (.cons (.var 5) (.cons (.var 3) .nil)))))) (.cons (.str (PySem.Str.ofString "number")) (.cons (.var 5) .nil)))))
  (.cons (.ret (.bl false))
  .nil)
  .nil)
  .nil))))))))
  (.cons (.ret (.bl true))
  .nil)))
def b_law : Sts := (.cons (.for (.name 1) (.rng (.cons (.bi .max2 (.cons (.int 2) (.cons (.bi .min2 (.cons (.int 5) (.cons (.bi .len (.cons (.var 0) .nil)) .nil))) .nil))) .nil))
  (.cons (.asg (.name 2) (.call 24 (.cons (.call 23 (.cons (.var 0) (.cons (.var 1) .nil))) .nil)))
  (.cons (.asgT [3, 4] (.cons (.call 31 (.cons (.var 2) (.cons (.call 25 (.cons (.var 2) (.cons (.int 6) .nil))) .nil))) (.cons (.call 31 (.cons (.var 2) (.cons (.call 25 (.cons (.var 2) (.cons (.int 6) .nil))) .nil))) .nil)))
  (.cons (.asg (.name 5) (.new 9 (.cons (.idx (.var 3) (.int 0)) (.cons (.idx (.var 3) (.int 1)) .nil))))
  (.cons (.ite (.or (.not (.call 39 (.cons (.var 2) (.cons (.var 5) (.cons (.var 3) .nil))))) (.or (.not (.call 41 (.cons (.var 2) (.cons (.var 5) (.cons (.var 3) .nil))))) (.not (.call 42 (.cons (.var 2) (.cons (.var 5) (.cons (.var 3) .nil)))))))
  (.cons (.ret (.bl false))
  .nil)
  .nil)
  (.cons (.ite (.or (.not (.call 43 (.cons (.var 2) (.cons (.var 3) (.cons (.var 4) .nil))))) (.or (.not (.call 43 (.cons (.var 2) (.cons (.var 3) (.cons (.tup (.cons (.idx (.var 3) (.int 0)) (.cons (.slc (.idx (.var 3) (.int 1)) .none (.some (.int 1))) .nil))) .nil))))) (.not (.call 44 (.cons (.var 2) (.cons (.var 3) .nil))))))
  (.cons (.ret (.bl false))
  .nil)
  .nil)
  .nil))))))
  (.cons (.ret (.bl true))
  .nil))
def b_Grain___init__ : Sts := (.cons (.ite (.not (.call 1 (.cons (.var 1) (.cons (.int 1) (.cons (.glob 0) .nil)))))
  (.cons (.raise 7 (.cons (.var 1) .nil))
  .nil)
  .nil)
  (.cons (.ite (.or (.not (.call 4 (.cons (.var 2) (.cons (.int 0) (.cons (.op .sub (.var 1) (.int 1)) .nil))))) (.cmp .eq (.var 2) (.tup .nil)))
  (.cons (.raise 5 (.cons (.var 2) .nil))
  .nil)
  .nil)
  (.cons (.fldT [0, 0] [3, 4] (.cons (.var 1) (.cons (.var 2) .nil)))
  (.cons (.fldSet (.var 0) 0 (.dcomp (.var 3) (.bl true) (.name 3) (.seq (.val (.var 2))) .none [3]))
  .nil))))
def b_Grain___eq__ : Sts := (.cons (.ret (.and (.bi (.isi (.cls 9)) (.cons (.var 1) .nil)) (.cmp .eq (.meth (.var 0) 3 .nil) (.meth (.var 1) 3 .nil))))
  .nil)
def b_Grain_begins : Sts := (.cons (.ret (.inS true (.op .mod (.var 1) (.fld (.var 0) 3)) (.val (.fld (.var 0) 0))))
  .nil)
def b_Grain_low_of : Sts := (.cons (.asg (.name 2) (.bi .len (.cons (.fld (.var 0) 4) .nil)))
  (.cons (.ret (.op .add (.op .mul (.op .fdiv (.var 1) (.var 2)) (.fld (.var 0) 3)) (.idx (.fld (.var 0) 4) (.op .mod (.var 1) (.var 2)))))
  .nil))
def b_Grain_index_of : Sts := (.cons (.asgT [2, 3] (.cons (.op .fdiv (.var 1) (.fld (.var 0) 3)) (.cons (.op .mod (.var 1) (.fld (.var 0) 3)) .nil)))
  (.cons (.ret (.op .sub (.op .add (.op .mul (.var 2) (.bi .len (.cons (.fld (.var 0) 4) .nil))) (.lb .len (.fresh (.comp (.int 1) (.name 4) (.seq (.val (.fld (.var 0) 4))) (.some (.cmp .le (.var 4) (.var 3))) [4])))) (.int 1)))
  .nil))
def b_Grain_block : Sts := (.cons (.expr (.call 6 (.cons (.var 1) .nil)))
  (.cons (.ret (.meth (.var 0) 4 (.cons (.var 1) .nil)))
  .nil))
def b_Grain_span : Sts := (.cons (.ite (.not (.call 1 (.cons (.var 1) (.cons (.neg (.glob 3)) (.cons (.glob 3) .nil)))))
  (.cons (.raise 3 (.cons (.var 1) .nil))
  .nil)
  .nil)
  (.cons (.ret (.tup (.cons (.meth (.var 0) 5 (.cons (.var 1) .nil)) (.cons (.meth (.var 0) 5 (.cons (.op .add (.var 1) (.int 1)) .nil)) .nil))))
  .nil))
def b_Grain_form : Sts := (.cons (.for (.name 1) (.rng (.cons (.int 1) (.cons (.op .add (.fld (.var 0) 3) (.int 1)) .nil)))
  (.cons (.ite (.and (.cmp .eq (.op .mod (.fld (.var 0) 3) (.var 1)) (.int 0)) (.lb .all (.fresh (.comp (.inS true (.op .mod (.op .add (.var 2) (.var 1)) (.fld (.var 0) 3)) (.val (.fld (.var 0) 0))) (.name 2) (.seq (.val (.fld (.var 0) 4))) .none [2]))))
  (.cons (.ret (.tup (.cons (.var 1) (.cons (.lb .tuple (.fresh (.comp (.var 2) (.name 2) (.seq (.val (.fld (.var 0) 4))) (.some (.cmp .lt (.var 2) (.var 1))) [2]))) .nil))))
  .nil)
  .nil)
  .nil))
  (.cons (.ret (.tup (.cons (.fld (.var 0) 3) (.cons (.fld (.var 0) 4) .nil))))
  .nil))
def g_MOST_PERIOD : Option W := some (.int 360)
def g_MOST_COMMON : Option W := some (.int 3600)
def g_GREATEST : Option W := some (.int 1000000000000000000)
def g_MOST_INDEX : Option W := some (.int 1000000000000000)
def g_FAR : Option W := some (.int 1000)
def g_MOST_GROUP : Option W := some (.int 24)
def g_MOST_FIRST : Option W := some (.int 23)
def g_MOST_BLOCKS : Option W := some (.int 1000)
def g_MOST_ALIGNED : Option W := some (.int 1000000000000)
def fns : List Fn := [⟨1, 1, b_is_integer⟩, ⟨3, 3, b_is_between⟩, ⟨3, 4, b_are_between⟩, ⟨1, 2, b_is_rising⟩, ⟨3, 3, b_is_rising_row⟩, ⟨2, 4, b_divisor⟩, ⟨1, 1, b_check_great⟩, ⟨2, 4, b_made_of⟩, ⟨2, 2, b_whole_period⟩, ⟨1, 1, b_check_period⟩, ⟨3, 3, b_is_known⟩, ⟨3, 3, b_check_interval⟩, ⟨3, 8, b_grouped⟩, ⟨2, 4, b_inner_blocks⟩, ⟨2, 2, b_whole_blocks⟩, ⟨2, 2, b_touched_blocks⟩, ⟨2, 2, b_rounded_out⟩, ⟨2, 3, b_rounded_in⟩, ⟨3, 6, b_moved_by⟩, ⟨1, 2, b_lengths_of⟩, ⟨1, 1, b_steady_lengths⟩, ⟨1, 2, b_longest_block⟩, ⟨3, 5, b_aligned⟩, ⟨2, 2, b__law_cell⟩, ⟨1, 1, b__law_box⟩, ⟨2, 4, b__law_take⟩, ⟨2, 3, b__law_same⟩, ⟨3, 4, b__law_interval⟩, ⟨1, 3, b__law_copy⟩, ⟨2, 2, b__law_blamed⟩] ++ [⟨3, 3, b__law_kept⟩, ⟨2, 7, b__law_grain⟩, ⟨2, 9, b__law_at⟩, ⟨2, 6, b__law_span⟩, ⟨1, 6, b__law_form⟩, ⟨2, 4, b__law_common⟩, ⟨3, 4, b__law_no_number⟩, ⟨5, 6, b__law_asked⟩, ⟨5, 6, b__law_both⟩, ⟨3, 15, b__law_grouped_right⟩, ⟨2, 6, b__law_interval_of⟩, ⟨3, 13, b__law_rounded_right⟩, ⟨3, 14, b__law_moved_right⟩, ⟨3, 13, b__law_aligned_right⟩, ⟨2, 8, b__law_refused_right⟩, ⟨1, 6, b_law⟩, ⟨3, 4, b_Grain___init__⟩, ⟨2, 2, b_Grain___eq__⟩, ⟨2, 2, b_Grain_begins⟩, ⟨2, 3, b_Grain_low_of⟩, ⟨2, 5, b_Grain_index_of⟩, ⟨2, 2, b_Grain_block⟩, ⟨2, 2, b_Grain_span⟩, ⟨1, 3, b_Grain_form⟩]
def B : TabL := { globs := [g_MOST_PERIOD, g_MOST_COMMON, g_GREATEST, g_MOST_INDEX, g_FAR, g_MOST_GROUP, g_MOST_FIRST, g_MOST_BLOCKS, g_MOST_ALIGNED], meths := [(9, 0, 47), (9, 1, 48), (9, 5, 49), (9, 4, 50), (9, 2, 51), (9, 6, 52), (9, 3, 53)], inits := [(9, 46)], eqms := [(9, 47)], exfs := [(1, [1]), (2, [1]), (3, [1]), (4, [1]), (5, [1]), (6, [1]), (7, [1]), (8, [2])], subs := [(0, 0), (1, 1), (1, 0), (2, 2), (2, 0), (3, 3), (3, 0), (4, 4), (4, 0), (5, 5), (5, 0), (6, 6), (6, 0), (7, 7), (7, 0), (8, 8), (8, 0), (9, 9)], plains := [9] }
def P : Pg := ⟨B.T, fns, 100000⟩
end K77
end

section
set_option Elab.async false
set_option linter.all false
set_option maxRecDepth 100000
set_option maxHeartbeats 8000000
/-! The tie of law_k77. -/
namespace K77
open MP PySem PySem.Spec PyProof.Rows L2
def top (i : Nat) : Stmt := PySem.Challenge.pw_intervalbench_k77_grouped_rounded_moved.main.body.getD i (.Pass ⟨0, 0, 0, 0⟩)
def inC (s : Stmt) (j : Nat) : Stmt := match s with | .ClassDef (body := b) .. => b.getD j (.Pass ⟨0, 0, 0, 0⟩) | _ => s
def d_is_integer : DefL := { d := ⟨("is_integer", none), "is_integer", "is_integer", defArgs (top 12), defBody (top 12), defScope (top 12), [], []⟩, ps := ["value"], N := ["value"], kw := [] }
theorem d_is_integer_b : BindL d_is_integer where
 bp := fun _ _ _ _ _ _ _ us hl => match us, hl with | [_], _ => by kernel_rfl
 bk := fun _ e he => nomatch he
 dp := fun h => nomatch h
 dk := fun h => nomatch h
def d_is_between : DefL := { d := ⟨("is_between", none), "is_between", "is_between", defArgs (top 13), defBody (top 13), defScope (top 13), [], []⟩, ps := ["value", "least", "most"], N := ["value", "least", "most"], kw := [] }
theorem d_is_between_b : BindL d_is_between where
 bp := fun _ _ _ _ _ _ _ us hl => match us, hl with | [_, _, _], _ => by kernel_rfl
 bk := fun _ e he => nomatch he
 dp := fun h => nomatch h
 dk := fun h => nomatch h
def d_are_between : DefL := { d := ⟨("are_between", none), "are_between", "are_between", defArgs (top 14), defBody (top 14), defScope (top 14), [], []⟩, ps := ["values", "least", "most"], N := ["values", "least", "most", "value"], kw := [] }
theorem d_are_between_b : BindL d_are_between where
 bp := fun _ _ _ _ _ _ _ us hl => match us, hl with | [_, _, _], _ => by kernel_rfl
 bk := fun _ e he => nomatch he
 dp := fun h => nomatch h
 dk := fun h => nomatch h
def d_is_rising : DefL := { d := ⟨("is_rising", none), "is_rising", "is_rising", defArgs (top 15), defBody (top 15), defScope (top 15), [], []⟩, ps := ["items"], N := ["items", "at"], kw := [] }
theorem d_is_rising_b : BindL d_is_rising where
 bp := fun _ _ _ _ _ _ _ us hl => match us, hl with | [_], _ => by kernel_rfl
 bk := fun _ e he => nomatch he
 dp := fun h => nomatch h
 dk := fun h => nomatch h
def d_is_rising_row : DefL := { d := ⟨("is_rising_row", none), "is_rising_row", "is_rising_row", defArgs (top 16), defBody (top 16), defScope (top 16), [], []⟩, ps := ["value", "least", "most"], N := ["value", "least", "most"], kw := [] }
theorem d_is_rising_row_b : BindL d_is_rising_row where
 bp := fun _ _ _ _ _ _ _ us hl => match us, hl with | [_, _, _], _ => by kernel_rfl
 bk := fun _ e he => nomatch he
 dp := fun h => nomatch h
 dk := fun h => nomatch h
def d_divisor : DefL := { d := ⟨("divisor", none), "divisor", "divisor", defArgs (top 17), defBody (top 17), defScope (top 17), [], []⟩, ps := ["one", "other"], N := ["one", "other", "first", "second"], kw := [] }
theorem d_divisor_b : BindL d_divisor where
 bp := fun _ _ _ _ _ _ _ us hl => match us, hl with | [_, _], _ => by kernel_rfl
 bk := fun _ e he => nomatch he
 dp := fun h => nomatch h
 dk := fun h => nomatch h
def d_check_great : DefL := { d := ⟨("check_great", none), "check_great", "check_great", defArgs (top 24), defBody (top 24), defScope (top 24), [], []⟩, ps := ["number"], N := ["number"], kw := [] }
theorem d_check_great_b : BindL d_check_great where
 bp := fun _ _ _ _ _ _ _ us hl => match us, hl with | [_], _ => by kernel_rfl
 bk := fun _ e he => nomatch he
 dp := fun h => nomatch h
 dk := fun h => nomatch h
def d_made_of : DefL := { d := ⟨("made_of", none), "made_of", "made_of", defArgs (top 25), defBody (top 25), defScope (top 25), [], []⟩, ps := ["period", "marks"], N := ["period", "marks", "found", "mark"], kw := [] }
theorem d_made_of_b : BindL d_made_of where
 bp := fun _ _ _ _ _ _ _ us hl => match us, hl with | [_, _], _ => by kernel_rfl
 bk := fun _ e he => nomatch he
 dp := fun h => nomatch h
 dk := fun h => nomatch h
def d_whole_period : DefL := { d := ⟨("whole_period", none), "whole_period", "whole_period", defArgs (top 26), defBody (top 26), defScope (top 26), [], []⟩, ps := ["one", "other"], N := ["one", "other"], kw := [] }
theorem d_whole_period_b : BindL d_whole_period where
 bp := fun _ _ _ _ _ _ _ us hl => match us, hl with | [_, _], _ => by kernel_rfl
 bk := fun _ e he => nomatch he
 dp := fun h => nomatch h
 dk := fun h => nomatch h
def d_check_period : DefL := { d := ⟨("check_period", none), "check_period", "check_period", defArgs (top 27), defBody (top 27), defScope (top 27), [], []⟩, ps := ["period"], N := ["period"], kw := [] }
theorem d_check_period_b : BindL d_check_period where
 bp := fun _ _ _ _ _ _ _ us hl => match us, hl with | [_], _ => by kernel_rfl
 bk := fun _ e he => nomatch he
 dp := fun h => nomatch h
 dk := fun h => nomatch h
def d_is_known : DefL := { d := ⟨("is_known", none), "is_known", "is_known", defArgs (top 30), defBody (top 30), defScope (top 30), [.int (-1000), .int (1000)], []⟩, ps := ["value", "least", "most"], N := ["value", "least", "most"], kw := [] }
theorem d_is_known_b : BindL d_is_known where
 bp := fun h => nomatch h
 bk := fun h => nomatch h
 dp := fun _ n hn => by
  have hn : n = 3 := by
    rcases hn with h | ⟨ds, h⟩
    · exact h
    · simp [d_is_known] at h
  rcases hn with rfl
  · intro T kV doc pm an cdv ct us its h1 h2
    exact match us, its, h1, h2 with | [_, _, _], [_, _], _, _ => ⟨_, rfl, by kernel_rfl⟩
 dk := fun _ e he => nomatch he
def d_check_interval : DefL := { d := ⟨("check_interval", none), "check_interval", "check_interval", defArgs (top 31), defBody (top 31), defScope (top 31), [.int (-1000), .int (1000)], []⟩, ps := ["interval", "least", "most"], N := ["interval", "least", "most"], kw := [], df := [(1, [-1000, 1000])] }
theorem d_check_interval_b : BindL d_check_interval where
 bp := fun h => nomatch h
 bk := fun h => nomatch h
 dp := fun _ n hn => by
  have hn : n = 3 ∨ n = 1 := by
    rcases hn with h | ⟨ds, h⟩
    · exact .inl h
    · simp [d_check_interval] at h; omega
  rcases hn with rfl | rfl
  · intro T kV doc pm an cdv ct us its h1 h2
    exact match us, its, h1, h2 with | [_, _, _], [_, _], _, _ => ⟨_, rfl, by kernel_rfl⟩
  · intro T kV doc pm an cdv ct us its h1 h2
    exact match us, its, h1, h2 with | [_], [_, _], _, _ => ⟨_, rfl, by kernel_rfl⟩
 dk := fun _ e he => nomatch he
def d_grouped : DefL := { d := ⟨("grouped", none), "grouped", "grouped", defArgs (top 37), defBody (top 37), defScope (top 37), [], []⟩, ps := ["grain", "number", "first"], N := ["grain", "number", "first", "many", "times", "period", "lows", "at"], kw := [(0, ["first", "number", "grain"], [2, 1, 0])] }
theorem d_grouped_b : BindL d_grouped where
 bp := fun _ _ _ _ _ _ _ us hl => match us, hl with | [_, _, _], _ => by kernel_rfl
 bk := fun _ e he => by
  simp only [d_grouped, List.mem_cons, List.not_mem_nil, or_false] at he
  rcases he with rfl
  · exact fun _ _ _ _ _ _ us ws hl hw => match us, ws, hl, hw with | [], [_, _, _], _, _ => ⟨_, rfl, rfl, by kernel_rfl⟩
 dp := fun h => nomatch h
 dk := fun h => nomatch h
def d_inner_blocks : DefL := { d := ⟨("inner_blocks", none), "inner_blocks", "inner_blocks", defArgs (top 38), defBody (top 38), defScope (top 38), [], []⟩, ps := ["grain", "interval"], N := ["grain", "interval", "first", "last"], kw := [] }
theorem d_inner_blocks_b : BindL d_inner_blocks where
 bp := fun _ _ _ _ _ _ _ us hl => match us, hl with | [_, _], _ => by kernel_rfl
 bk := fun _ e he => nomatch he
 dp := fun h => nomatch h
 dk := fun h => nomatch h
def d_whole_blocks : DefL := { d := ⟨("whole_blocks", none), "whole_blocks", "whole_blocks", defArgs (top 39), defBody (top 39), defScope (top 39), [], []⟩, ps := ["grain", "interval"], N := ["grain", "interval"], kw := [(0, ["interval", "grain"], [1, 0])] }
theorem d_whole_blocks_b : BindL d_whole_blocks where
 bp := fun _ _ _ _ _ _ _ us hl => match us, hl with | [_, _], _ => by kernel_rfl
 bk := fun _ e he => by
  simp only [d_whole_blocks, List.mem_cons, List.not_mem_nil, or_false] at he
  rcases he with rfl
  · exact fun _ _ _ _ _ _ us ws hl hw => match us, ws, hl, hw with | [], [_, _], _, _ => ⟨_, rfl, rfl, by kernel_rfl⟩
 dp := fun h => nomatch h
 dk := fun h => nomatch h
def d_touched_blocks : DefL := { d := ⟨("touched_blocks", none), "touched_blocks", "touched_blocks", defArgs (top 40), defBody (top 40), defScope (top 40), [], []⟩, ps := ["grain", "interval"], N := ["grain", "interval"], kw := [(0, ["interval", "grain"], [1, 0])] }
theorem d_touched_blocks_b : BindL d_touched_blocks where
 bp := fun _ _ _ _ _ _ _ us hl => match us, hl with | [_, _], _ => by kernel_rfl
 bk := fun _ e he => by
  simp only [d_touched_blocks, List.mem_cons, List.not_mem_nil, or_false] at he
  rcases he with rfl
  · exact fun _ _ _ _ _ _ us ws hl hw => match us, ws, hl, hw with | [], [_, _], _, _ => ⟨_, rfl, rfl, by kernel_rfl⟩
 dp := fun h => nomatch h
 dk := fun h => nomatch h
def d_rounded_out : DefL := { d := ⟨("rounded_out", none), "rounded_out", "rounded_out", defArgs (top 41), defBody (top 41), defScope (top 41), [], []⟩, ps := ["grain", "interval"], N := ["grain", "interval"], kw := [(0, ["interval", "grain"], [1, 0])] }
theorem d_rounded_out_b : BindL d_rounded_out where
 bp := fun _ _ _ _ _ _ _ us hl => match us, hl with | [_, _], _ => by kernel_rfl
 bk := fun _ e he => by
  simp only [d_rounded_out, List.mem_cons, List.not_mem_nil, or_false] at he
  rcases he with rfl
  · exact fun _ _ _ _ _ _ us ws hl hw => match us, ws, hl, hw with | [], [_, _], _, _ => ⟨_, rfl, rfl, by kernel_rfl⟩
 dp := fun h => nomatch h
 dk := fun h => nomatch h
def d_rounded_in : DefL := { d := ⟨("rounded_in", none), "rounded_in", "rounded_in", defArgs (top 42), defBody (top 42), defScope (top 42), [], []⟩, ps := ["grain", "interval"], N := ["grain", "interval", "blocks"], kw := [(0, ["interval", "grain"], [1, 0])] }
theorem d_rounded_in_b : BindL d_rounded_in where
 bp := fun _ _ _ _ _ _ _ us hl => match us, hl with | [_, _], _ => by kernel_rfl
 bk := fun _ e he => by
  simp only [d_rounded_in, List.mem_cons, List.not_mem_nil, or_false] at he
  rcases he with rfl
  · exact fun _ _ _ _ _ _ us ws hl hw => match us, ws, hl, hw with | [], [_, _], _, _ => ⟨_, rfl, rfl, by kernel_rfl⟩
 dp := fun h => nomatch h
 dk := fun h => nomatch h
def d_moved_by : DefL := { d := ⟨("moved_by", none), "moved_by", "moved_by", defArgs (top 43), defBody (top 43), defScope (top 43), [], []⟩, ps := ["grain", "number", "blocks"], N := ["grain", "number", "blocks", "index", "low", "high"], kw := [(0, ["blocks", "number", "grain"], [2, 1, 0])] }
theorem d_moved_by_b : BindL d_moved_by where
 bp := fun _ _ _ _ _ _ _ us hl => match us, hl with | [_, _, _], _ => by kernel_rfl
 bk := fun _ e he => by
  simp only [d_moved_by, List.mem_cons, List.not_mem_nil, or_false] at he
  rcases he with rfl
  · exact fun _ _ _ _ _ _ us ws hl hw => match us, ws, hl, hw with | [], [_, _, _], _, _ => ⟨_, rfl, rfl, by kernel_rfl⟩
 dp := fun h => nomatch h
 dk := fun h => nomatch h
def d_lengths_of : DefL := { d := ⟨("lengths_of", none), "lengths_of", "lengths_of", defArgs (top 44), defBody (top 44), defScope (top 44), [], []⟩, ps := ["grain"], N := ["grain", "index"], kw := [] }
theorem d_lengths_of_b : BindL d_lengths_of where
 bp := fun _ _ _ _ _ _ _ us hl => match us, hl with | [_], _ => by kernel_rfl
 bk := fun _ e he => nomatch he
 dp := fun h => nomatch h
 dk := fun h => nomatch h
def d_steady_lengths : DefL := { d := ⟨("steady_lengths", none), "steady_lengths", "steady_lengths", defArgs (top 45), defBody (top 45), defScope (top 45), [], []⟩, ps := ["grain"], N := ["grain"], kw := [(0, ["grain"], [0])] }
theorem d_steady_lengths_b : BindL d_steady_lengths where
 bp := fun _ _ _ _ _ _ _ us hl => match us, hl with | [_], _ => by kernel_rfl
 bk := fun _ e he => by
  simp only [d_steady_lengths, List.mem_cons, List.not_mem_nil, or_false] at he
  rcases he with rfl
  · exact fun _ _ _ _ _ _ us ws hl hw => match us, ws, hl, hw with | [], [_], _, _ => ⟨_, rfl, rfl, by kernel_rfl⟩
 dp := fun h => nomatch h
 dk := fun h => nomatch h
def d_longest_block : DefL := { d := ⟨("longest_block", none), "longest_block", "longest_block", defArgs (top 46), defBody (top 46), defScope (top 46), [], []⟩, ps := ["grain"], N := ["grain", "lengths"], kw := [(0, ["grain"], [0])] }
theorem d_longest_block_b : BindL d_longest_block where
 bp := fun _ _ _ _ _ _ _ us hl => match us, hl with | [_], _ => by kernel_rfl
 bk := fun _ e he => by
  simp only [d_longest_block, List.mem_cons, List.not_mem_nil, or_false] at he
  rcases he with rfl
  · exact fun _ _ _ _ _ _ us ws hl hw => match us, ws, hl, hw with | [], [_], _, _ => ⟨_, rfl, rfl, by kernel_rfl⟩
 dp := fun h => nomatch h
 dk := fun h => nomatch h
def d_aligned : DefL := { d := ⟨("aligned", none), "aligned", "aligned", defArgs (top 47), defBody (top 47), defScope (top 47), [], []⟩, ps := ["one", "other", "number"], N := ["one", "other", "number", "index", "far"], kw := [(0, ["number", "other", "one"], [2, 1, 0])] }
theorem d_aligned_b : BindL d_aligned where
 bp := fun _ _ _ _ _ _ _ us hl => match us, hl with | [_, _, _], _ => by kernel_rfl
 bk := fun _ e he => by
  simp only [d_aligned, List.mem_cons, List.not_mem_nil, or_false] at he
  rcases he with rfl
  · exact fun _ _ _ _ _ _ us ws hl hw => match us, ws, hl, hw with | [], [_, _, _], _, _ => ⟨_, rfl, rfl, by kernel_rfl⟩
 dp := fun h => nomatch h
 dk := fun h => nomatch h
def d__law_cell : DefL := { d := ⟨("_law_cell", none), "_law_cell", "_law_cell", defArgs (top 49), defBody (top 49), defScope (top 49), [], []⟩, ps := ["script", "k"], N := ["script", "k"], kw := [] }
theorem d__law_cell_b : BindL d__law_cell where
 bp := fun _ _ _ _ _ _ _ us hl => match us, hl with | [_, _], _ => by kernel_rfl
 bk := fun _ e he => nomatch he
 dp := fun h => nomatch h
 dk := fun h => nomatch h
def d__law_box : DefL := { d := ⟨("_law_box", none), "_law_box", "_law_box", defArgs (top 50), defBody (top 50), defScope (top 50), [], []⟩, ps := ["great"], N := ["great"], kw := [] }
theorem d__law_box_b : BindL d__law_box where
 bp := fun _ _ _ _ _ _ _ us hl => match us, hl with | [_], _ => by kernel_rfl
 bk := fun _ e he => nomatch he
 dp := fun h => nomatch h
 dk := fun h => nomatch h
def d__law_take : DefL := { d := ⟨("_law_take", none), "_law_take", "_law_take", defArgs (top 51), defBody (top 51), defScope (top 51), [], []⟩, ps := ["box", "many"], N := ["box", "many", "digit", "mixed"], kw := [] }
theorem d__law_take_b : BindL d__law_take where
 bp := fun _ _ _ _ _ _ _ us hl => match us, hl with | [_, _], _ => by kernel_rfl
 bk := fun _ e he => nomatch he
 dp := fun h => nomatch h
 dk := fun h => nomatch h
def d__law_same : DefL := { d := ⟨("_law_same", none), "_law_same", "_law_same", defArgs (top 52), defBody (top 52), defScope (top 52), [], []⟩, ps := ["told", "due"], N := ["told", "due", "k"], kw := [] }
theorem d__law_same_b : BindL d__law_same where
 bp := fun _ _ _ _ _ _ _ us hl => match us, hl with | [_, _], _ => by kernel_rfl
 bk := fun _ e he => nomatch he
 dp := fun h => nomatch h
 dk := fun h => nomatch h
def d__law_interval : DefL := { d := ⟨("_law_interval", none), "_law_interval", "_law_interval", defArgs (top 53), defBody (top 53), defScope (top 53), [], []⟩, ps := ["box", "low", "high"], N := ["box", "low", "high", "first"], kw := [] }
theorem d__law_interval_b : BindL d__law_interval where
 bp := fun _ _ _ _ _ _ _ us hl => match us, hl with | [_, _, _], _ => by kernel_rfl
 bk := fun _ e he => nomatch he
 dp := fun h => nomatch h
 dk := fun h => nomatch h
def d__law_copy : DefL := { d := ⟨("_law_copy", none), "_law_copy", "_law_copy", defArgs (top 54), defBody (top 54), defScope (top 54), [], []⟩, ps := ["value"], N := ["value", "x", "key"], kw := [] }
theorem d__law_copy_b : BindL d__law_copy where
 bp := fun _ _ _ _ _ _ _ us hl => match us, hl with | [_], _ => by kernel_rfl
 bk := fun _ e he => nomatch he
 dp := fun h => nomatch h
 dk := fun h => nomatch h
def d__law_blamed : DefL := { d := ⟨("_law_blamed", none), "_law_blamed", "_law_blamed", defArgs (top 55), defBody (top 55), defScope (top 55), [], []⟩, ps := ["given", "value"], N := ["given", "value"], kw := [] }
theorem d__law_blamed_b : BindL d__law_blamed where
 bp := fun _ _ _ _ _ _ _ us hl => match us, hl with | [_, _], _ => by kernel_rfl
 bk := fun _ e he => nomatch he
 dp := fun h => nomatch h
 dk := fun h => nomatch h
def d__law_kept : DefL := { d := ⟨("_law_kept", none), "_law_kept", "_law_kept", defArgs (top 56), defBody (top 56), defScope (top 56), [], []⟩, ps := ["told", "word", "value"], N := ["told", "word", "value"], kw := [] }
theorem d__law_kept_b : BindL d__law_kept where
 bp := fun _ _ _ _ _ _ _ us hl => match us, hl with | [_, _, _], _ => by kernel_rfl
 bk := fun _ e he => nomatch he
 dp := fun h => nomatch h
 dk := fun h => nomatch h
def d__law_grain : DefL := { d := ⟨("_law_grain", none), "_law_grain", "_law_grain", defArgs (top 57), defBody (top 57), defScope (top 57), [], []⟩, ps := ["box", "way"], N := ["box", "way", "period", "step", "first", "marks", "k"], kw := [] }
theorem d__law_grain_b : BindL d__law_grain where
 bp := fun _ _ _ _ _ _ _ us hl => match us, hl with | [_, _], _ => by kernel_rfl
 bk := fun _ e he => nomatch he
 dp := fun h => nomatch h
 dk := fun h => nomatch h
def d__law_at : DefL := { d := ⟨("_law_at", none), "_law_at", "_law_at", defArgs (top 58), defBody (top 58), defScope (top 58), [], []⟩, ps := ["grain", "number"], N := ["grain", "number", "period", "marks", "rounds", "rest", "before", "k", "at"], kw := [] }
theorem d__law_at_b : BindL d__law_at where
 bp := fun _ _ _ _ _ _ _ us hl => match us, hl with | [_, _], _ => by kernel_rfl
 bk := fun _ e he => nomatch he
 dp := fun h => nomatch h
 dk := fun h => nomatch h
def d__law_span : DefL := { d := ⟨("_law_span", none), "_law_span", "_law_span", defArgs (top 59), defBody (top 59), defScope (top 59), [], []⟩, ps := ["grain", "index"], N := ["grain", "index", "period", "marks", "lows", "k"], kw := [] }
theorem d__law_span_b : BindL d__law_span where
 bp := fun _ _ _ _ _ _ _ us hl => match us, hl with | [_, _], _ => by kernel_rfl
 bk := fun _ e he => nomatch he
 dp := fun h => nomatch h
 dk := fun h => nomatch h
def d__law_form : DefL := { d := ⟨("_law_form", none), "_law_form", "_law_form", defArgs (top 60), defBody (top 60), defScope (top 60), [], []⟩, ps := ["grain"], N := ["grain", "period", "marks", "known", "x", "one"], kw := [] }
theorem d__law_form_b : BindL d__law_form where
 bp := fun _ _ _ _ _ _ _ us hl => match us, hl with | [_], _ => by kernel_rfl
 bk := fun _ e he => nomatch he
 dp := fun h => nomatch h
 dk := fun h => nomatch h
def d__law_common : DefL := { d := ⟨("_law_common", none), "_law_common", "_law_common", defArgs (top 61), defBody (top 61), defScope (top 61), [], []⟩, ps := ["one", "other"], N := ["one", "other", "a", "b"], kw := [] }
theorem d__law_common_b : BindL d__law_common where
 bp := fun _ _ _ _ _ _ _ us hl => match us, hl with | [_, _], _ => by kernel_rfl
 bk := fun _ e he => nomatch he
 dp := fun h => nomatch h
 dk := fun h => nomatch h
def d__law_no_number : DefL := { d := ⟨("_law_no_number", none), "_law_no_number", "_law_no_number", defArgs (top 62), defBody (top 62), defScope (top 62), [], []⟩, ps := ["box", "low", "high"], N := ["box", "low", "high", "odd"], kw := [] }
theorem d__law_no_number_b : BindL d__law_no_number where
 bp := fun _ _ _ _ _ _ _ us hl => match us, hl with | [_, _, _], _ => by kernel_rfl
 bk := fun _ e he => nomatch he
 dp := fun h => nomatch h
 dk := fun h => nomatch h
def d__law_asked : DefL := { d := ⟨("_law_asked", none), "_law_asked", "_law_asked", defArgs (top 63), defBody (top 63), defScope (top 63), [], []⟩, ps := ["way", "one", "other", "third", "named"], N := ["way", "one", "other", "third", "named", "e"], kw := [] }
theorem d__law_asked_b : BindL d__law_asked where
 bp := fun _ _ _ _ _ _ _ us hl => match us, hl with | [_, _, _, _, _], _ => by kernel_rfl
 bk := fun _ e he => nomatch he
 dp := fun h => nomatch h
 dk := fun h => nomatch h
def d__law_both : DefL := { d := ⟨("_law_both", none), "_law_both", "_law_both", defArgs (top 64), defBody (top 64), defScope (top 64), [], []⟩, ps := ["way", "one", "other", "third", "due"], N := ["way", "one", "other", "third", "due", "named"], kw := [] }
theorem d__law_both_b : BindL d__law_both where
 bp := fun _ _ _ _ _ _ _ us hl => match us, hl with | [_, _, _, _, _], _ => by kernel_rfl
 bk := fun _ e he => nomatch he
 dp := fun h => nomatch h
 dk := fun h => nomatch h
def d__law_grouped_right : DefL := { d := ⟨("_law_grouped_right", none), "_law_grouped_right", "_law_grouped_right", defArgs (top 65), defBody (top 65), defScope (top 65), [], []⟩, ps := ["box", "made", "grain"], N := ["box", "made", "grain", "many", "turn", "number", "first", "period", "told", "lows", "k", "due", "low", "x", "spans"], kw := [] }
theorem d__law_grouped_right_b : BindL d__law_grouped_right where
 bp := fun _ _ _ _ _ _ _ us hl => match us, hl with | [_, _, _], _ => by kernel_rfl
 bk := fun _ e he => nomatch he
 dp := fun h => nomatch h
 dk := fun h => nomatch h
def d__law_interval_of : DefL := { d := ⟨("_law_interval_of", none), "_law_interval_of", "_law_interval_of", defArgs (top 66), defBody (top 66), defScope (top 66), [], []⟩, ps := ["box", "grain"], N := ["box", "grain", "way", "index", "low", "high"], kw := [] }
theorem d__law_interval_of_b : BindL d__law_interval_of where
 bp := fun _ _ _ _ _ _ _ us hl => match us, hl with | [_, _], _ => by kernel_rfl
 bk := fun _ e he => nomatch he
 dp := fun h => nomatch h
 dk := fun h => nomatch h
def d__law_rounded_right : DefL := { d := ⟨("_law_rounded_right", none), "_law_rounded_right", "_law_rounded_right", defArgs (top 67), defBody (top 67), defScope (top 67), [], []⟩, ps := ["box", "made", "grain"], N := ["box", "made", "grain", "turn", "interval", "first", "last", "inner", "outer", "whole", "inside", "dues", "way"], kw := [] }
theorem d__law_rounded_right_b : BindL d__law_rounded_right where
 bp := fun _ _ _ _ _ _ _ us hl => match us, hl with | [_, _, _], _ => by kernel_rfl
 bk := fun _ e he => nomatch he
 dp := fun h => nomatch h
 dk := fun h => nomatch h
def d__law_moved_right : DefL := { d := ⟨("_law_moved_right", none), "_law_moved_right", "_law_moved_right", defArgs (top 68), defBody (top 68), defScope (top 68), [], []⟩, ps := ["box", "made", "grain"], N := ["box", "made", "grain", "turn", "number", "blocks", "index", "low", "high", "other", "lengths", "k", "told", "due"], kw := [] }
theorem d__law_moved_right_b : BindL d__law_moved_right where
 bp := fun _ _ _ _ _ _ _ us hl => match us, hl with | [_, _, _], _ => by kernel_rfl
 bk := fun _ e he => nomatch he
 dp := fun h => nomatch h
 dk := fun h => nomatch h
def d__law_aligned_right : DefL := { d := ⟨("_law_aligned_right", none), "_law_aligned_right", "_law_aligned_right", defArgs (top 69), defBody (top 69), defScope (top 69), [], []⟩, ps := ["box", "one", "other"], N := ["box", "one", "other", "first", "second", "period", "starts", "x", "turn", "number", "rest", "later", "due"], kw := [] }
theorem d__law_aligned_right_b : BindL d__law_aligned_right where
 bp := fun _ _ _ _ _ _ _ us hl => match us, hl with | [_, _, _], _ => by kernel_rfl
 bk := fun _ e he => nomatch he
 dp := fun h => nomatch h
 dk := fun h => nomatch h
def d__law_refused_right : DefL := { d := ⟨("_law_refused_right", none), "_law_refused_right", "_law_refused_right", defArgs (top 70), defBody (top 70), defScope (top 70), [], []⟩, ps := ["box", "grain"], N := ["box", "grain", "made", "named", "turn", "bad", "odd", "way"], kw := [] }
theorem d__law_refused_right_b : BindL d__law_refused_right where
 bp := fun _ _ _ _ _ _ _ us hl => match us, hl with | [_, _], _ => by kernel_rfl
 bk := fun _ e he => nomatch he
 dp := fun h => nomatch h
 dk := fun h => nomatch h
def d_law : DefL := { d := ⟨("law", none), "law", "law", defArgs (top 71), defBody (top 71), defScope (top 71), [], []⟩, ps := ["script"], N := ["script", "k", "box", "grain", "other", "made"], kw := [] }
theorem d_law_b : BindL d_law where
 bp := fun _ _ _ _ _ _ _ us hl => match us, hl with | [_], _ => by kernel_rfl
 bk := fun _ e he => nomatch he
 dp := fun h => nomatch h
 dk := fun h => nomatch h
def d_Grain___init__ : DefL := { d := ⟨("Grain", some "__init__"), "__init__", "Grain.__init__", defArgs (inC (top 23) 0), defBody (inC (top 23) 0), defScope (inC (top 23) 0), [], []⟩, ps := ["self", "period", "marks"], N := ["self", "period", "marks", "mark"], kw := [(1, ["period", "marks"], [0, 1, 2])] }
theorem d_Grain___init___b : BindL d_Grain___init__ where
 bp := fun _ _ _ _ _ _ _ us hl => match us, hl with | [_, _, _], _ => by kernel_rfl
 bk := fun _ e he => by
  simp only [d_Grain___init__, List.mem_cons, List.not_mem_nil, or_false] at he
  rcases he with rfl
  · exact fun _ _ _ _ _ _ us ws hl hw => match us, ws, hl, hw with | [_], [_, _], _, _ => ⟨_, rfl, rfl, by kernel_rfl⟩
 dp := fun h => nomatch h
 dk := fun h => nomatch h
def d_Grain___eq__ : DefL := { d := ⟨("Grain", some "__eq__"), "__eq__", "Grain.__eq__", defArgs (inC (top 23) 1), defBody (inC (top 23) 1), defScope (inC (top 23) 1), [], []⟩, ps := ["self", "other"], N := ["self", "other"], kw := [] }
theorem d_Grain___eq___b : BindL d_Grain___eq__ where
 bp := fun _ _ _ _ _ _ _ us hl => match us, hl with | [_, _], _ => by kernel_rfl
 bk := fun _ e he => nomatch he
 dp := fun h => nomatch h
 dk := fun h => nomatch h
def d_Grain_begins : DefL := { d := ⟨("Grain", some "begins"), "begins", "Grain.begins", defArgs (inC (top 23) 2), defBody (inC (top 23) 2), defScope (inC (top 23) 2), [], []⟩, ps := ["self", "number"], N := ["self", "number"], kw := [] }
theorem d_Grain_begins_b : BindL d_Grain_begins where
 bp := fun _ _ _ _ _ _ _ us hl => match us, hl with | [_, _], _ => by kernel_rfl
 bk := fun _ e he => nomatch he
 dp := fun h => nomatch h
 dk := fun h => nomatch h
def d_Grain_low_of : DefL := { d := ⟨("Grain", some "low_of"), "low_of", "Grain.low_of", defArgs (inC (top 23) 3), defBody (inC (top 23) 3), defScope (inC (top 23) 3), [], []⟩, ps := ["self", "index"], N := ["self", "index", "many"], kw := [] }
theorem d_Grain_low_of_b : BindL d_Grain_low_of where
 bp := fun _ _ _ _ _ _ _ us hl => match us, hl with | [_, _], _ => by kernel_rfl
 bk := fun _ e he => nomatch he
 dp := fun h => nomatch h
 dk := fun h => nomatch h
def d_Grain_index_of : DefL := { d := ⟨("Grain", some "index_of"), "index_of", "Grain.index_of", defArgs (inC (top 23) 4), defBody (inC (top 23) 4), defScope (inC (top 23) 4), [], []⟩, ps := ["self", "number"], N := ["self", "number", "rounds", "rest", "mark"], kw := [] }
theorem d_Grain_index_of_b : BindL d_Grain_index_of where
 bp := fun _ _ _ _ _ _ _ us hl => match us, hl with | [_, _], _ => by kernel_rfl
 bk := fun _ e he => nomatch he
 dp := fun h => nomatch h
 dk := fun h => nomatch h
def d_Grain_block : DefL := { d := ⟨("Grain", some "block"), "block", "Grain.block", defArgs (inC (top 23) 5), defBody (inC (top 23) 5), defScope (inC (top 23) 5), [], []⟩, ps := ["self", "number"], N := ["self", "number"], kw := [] }
theorem d_Grain_block_b : BindL d_Grain_block where
 bp := fun _ _ _ _ _ _ _ us hl => match us, hl with | [_, _], _ => by kernel_rfl
 bk := fun _ e he => nomatch he
 dp := fun h => nomatch h
 dk := fun h => nomatch h
def d_Grain_span : DefL := { d := ⟨("Grain", some "span"), "span", "Grain.span", defArgs (inC (top 23) 6), defBody (inC (top 23) 6), defScope (inC (top 23) 6), [], []⟩, ps := ["self", "index"], N := ["self", "index"], kw := [] }
theorem d_Grain_span_b : BindL d_Grain_span where
 bp := fun _ _ _ _ _ _ _ us hl => match us, hl with | [_, _], _ => by kernel_rfl
 bk := fun _ e he => nomatch he
 dp := fun h => nomatch h
 dk := fun h => nomatch h
def d_Grain_form : DefL := { d := ⟨("Grain", some "form"), "form", "Grain.form", defArgs (inC (top 23) 7), defBody (inC (top 23) 7), defScope (inC (top 23) 7), [], []⟩, ps := ["self"], N := ["self", "one", "mark"], kw := [] }
theorem d_Grain_form_b : BindL d_Grain_form where
 bp := fun _ _ _ _ _ _ _ us hl => match us, hl with | [_], _ => by kernel_rfl
 bk := fun _ e he => nomatch he
 dp := fun h => nomatch h
 dk := fun h => nomatch h
def x_InvalidBlocks : DefL := { d := ⟨("InvalidBlocks", some "__init__"), "__init__", "InvalidBlocks.__init__", defArgs (inC (top 2) 0), defBody (inC (top 2) 0), defScope (inC (top 2) 0), [], []⟩, ps := ["self", "given"], N := ["self", "given"], kw := [] }
theorem x_InvalidBlocks_b : BindL x_InvalidBlocks where
 bp := fun _ _ _ _ _ _ _ us hl => match us, hl with | [_, _], _ => by kernel_rfl
 bk := fun _ e he => nomatch he
 dp := fun h => nomatch h
 dk := fun h => nomatch h
def x_InvalidFirst : DefL := { d := ⟨("InvalidFirst", some "__init__"), "__init__", "InvalidFirst.__init__", defArgs (inC (top 3) 0), defBody (inC (top 3) 0), defScope (inC (top 3) 0), [], []⟩, ps := ["self", "given"], N := ["self", "given"], kw := [] }
theorem x_InvalidFirst_b : BindL x_InvalidFirst where
 bp := fun _ _ _ _ _ _ _ us hl => match us, hl with | [_, _], _ => by kernel_rfl
 bk := fun _ e he => nomatch he
 dp := fun h => nomatch h
 dk := fun h => nomatch h
def x_InvalidIndex : DefL := { d := ⟨("InvalidIndex", some "__init__"), "__init__", "InvalidIndex.__init__", defArgs (inC (top 4) 0), defBody (inC (top 4) 0), defScope (inC (top 4) 0), [], []⟩, ps := ["self", "given"], N := ["self", "given"], kw := [] }
theorem x_InvalidIndex_b : BindL x_InvalidIndex where
 bp := fun _ _ _ _ _ _ _ us hl => match us, hl with | [_, _], _ => by kernel_rfl
 bk := fun _ e he => nomatch he
 dp := fun h => nomatch h
 dk := fun h => nomatch h
def x_InvalidInterval : DefL := { d := ⟨("InvalidInterval", some "__init__"), "__init__", "InvalidInterval.__init__", defArgs (inC (top 5) 0), defBody (inC (top 5) 0), defScope (inC (top 5) 0), [], []⟩, ps := ["self", "given"], N := ["self", "given"], kw := [] }
theorem x_InvalidInterval_b : BindL x_InvalidInterval where
 bp := fun _ _ _ _ _ _ _ us hl => match us, hl with | [_, _], _ => by kernel_rfl
 bk := fun _ e he => nomatch he
 dp := fun h => nomatch h
 dk := fun h => nomatch h
def x_InvalidMarks : DefL := { d := ⟨("InvalidMarks", some "__init__"), "__init__", "InvalidMarks.__init__", defArgs (inC (top 6) 0), defBody (inC (top 6) 0), defScope (inC (top 6) 0), [], []⟩, ps := ["self", "given"], N := ["self", "given"], kw := [] }
theorem x_InvalidMarks_b : BindL x_InvalidMarks where
 bp := fun _ _ _ _ _ _ _ us hl => match us, hl with | [_, _], _ => by kernel_rfl
 bk := fun _ e he => nomatch he
 dp := fun h => nomatch h
 dk := fun h => nomatch h
def x_InvalidNumber : DefL := { d := ⟨("InvalidNumber", some "__init__"), "__init__", "InvalidNumber.__init__", defArgs (inC (top 7) 0), defBody (inC (top 7) 0), defScope (inC (top 7) 0), [], []⟩, ps := ["self", "given"], N := ["self", "given"], kw := [] }
theorem x_InvalidNumber_b : BindL x_InvalidNumber where
 bp := fun _ _ _ _ _ _ _ us hl => match us, hl with | [_, _], _ => by kernel_rfl
 bk := fun _ e he => nomatch he
 dp := fun h => nomatch h
 dk := fun h => nomatch h
def x_InvalidPeriod : DefL := { d := ⟨("InvalidPeriod", some "__init__"), "__init__", "InvalidPeriod.__init__", defArgs (inC (top 8) 0), defBody (inC (top 8) 0), defScope (inC (top 8) 0), [], []⟩, ps := ["self", "given"], N := ["self", "given"], kw := [] }
theorem x_InvalidPeriod_b : BindL x_InvalidPeriod where
 bp := fun _ _ _ _ _ _ _ us hl => match us, hl with | [_, _], _ => by kernel_rfl
 bk := fun _ e he => nomatch he
 dp := fun h => nomatch h
 dk := fun h => nomatch h
def x_TooLarge : DefL := { d := ⟨("TooLarge", some "__init__"), "__init__", "TooLarge.__init__", defArgs (inC (top 10) 0), defBody (inC (top 10) 0), defScope (inC (top 10) 0), [], []⟩, ps := ["self", "count"], N := ["self", "count"], kw := [] }
theorem x_TooLarge_b : BindL x_TooLarge where
 bp := fun _ _ _ _ _ _ _ us hl => match us, hl with | [_, _], _ => by kernel_rfl
 bk := fun _ e he => nomatch he
 dp := fun h => nomatch h
 dk := fun h => nomatch h
def defs : List DefL := [d_is_integer, d_is_between, d_are_between, d_is_rising, d_is_rising_row, d_divisor, d_check_great, d_made_of, d_whole_period, d_check_period, d_is_known, d_check_interval, d_grouped, d_inner_blocks, d_whole_blocks, d_touched_blocks, d_rounded_out, d_rounded_in, d_moved_by, d_lengths_of, d_steady_lengths, d_longest_block, d_aligned, d__law_cell, d__law_box, d__law_take, d__law_same, d__law_interval, d__law_copy, d__law_blamed] ++ [d__law_kept, d__law_grain, d__law_at, d__law_span, d__law_form, d__law_common, d__law_no_number, d__law_asked, d__law_both, d__law_grouped_right, d__law_interval_of, d__law_rounded_right, d__law_moved_right, d__law_aligned_right, d__law_refused_right, d_law, d_Grain___init__, d_Grain___eq__, d_Grain_begins, d_Grain_low_of, d_Grain_index_of, d_Grain_block, d_Grain_span, d_Grain_form]
def exs : List DefL := [x_InvalidBlocks, x_InvalidFirst, x_InvalidIndex, x_InvalidInterval, x_InvalidMarks, x_InvalidNumber, x_InvalidPeriod, x_TooLarge]
theorem defs_b : AllBind defs := ⟨d_is_integer_b, ⟨d_is_between_b, ⟨d_are_between_b, ⟨d_is_rising_b, ⟨d_is_rising_row_b, ⟨d_divisor_b, ⟨d_check_great_b, ⟨d_made_of_b, ⟨d_whole_period_b, ⟨d_check_period_b, ⟨d_is_known_b, ⟨d_check_interval_b, ⟨d_grouped_b, ⟨d_inner_blocks_b, ⟨d_whole_blocks_b, ⟨d_touched_blocks_b, ⟨d_rounded_out_b, ⟨d_rounded_in_b, ⟨d_moved_by_b, ⟨d_lengths_of_b, ⟨d_steady_lengths_b, ⟨d_longest_block_b, ⟨d_aligned_b, ⟨d__law_cell_b, ⟨d__law_box_b, ⟨d__law_take_b, ⟨d__law_same_b, ⟨d__law_interval_b, ⟨d__law_copy_b, ⟨d__law_blamed_b, ⟨d__law_kept_b, ⟨d__law_grain_b, ⟨d__law_at_b, ⟨d__law_span_b, ⟨d__law_form_b, ⟨d__law_common_b, ⟨d__law_no_number_b, ⟨d__law_asked_b, ⟨d__law_both_b, ⟨d__law_grouped_right_b, ⟨d__law_interval_of_b, ⟨d__law_rounded_right_b, ⟨d__law_moved_right_b, ⟨d__law_aligned_right_b, ⟨d__law_refused_right_b, ⟨d_law_b, ⟨d_Grain___init___b, ⟨d_Grain___eq___b, ⟨d_Grain_begins_b, ⟨d_Grain_low_of_b, ⟨d_Grain_index_of_b, ⟨d_Grain_block_b, ⟨d_Grain_span_b, ⟨d_Grain_form_b, trivial⟩⟩⟩⟩⟩⟩⟩⟩⟩⟩⟩⟩⟩⟩⟩⟩⟩⟩⟩⟩⟩⟩⟩⟩⟩⟩⟩⟩⟩⟩⟩⟩⟩⟩⟩⟩⟩⟩⟩⟩⟩⟩⟩⟩⟩⟩⟩⟩⟩⟩⟩⟩⟩⟩
theorem exs_b : AllBind exs := ⟨x_InvalidBlocks_b, ⟨x_InvalidFirst_b, ⟨x_InvalidIndex_b, ⟨x_InvalidInterval_b, ⟨x_InvalidMarks_b, ⟨x_InvalidNumber_b, ⟨x_InvalidPeriod_b, ⟨x_TooLarge_b, trivial⟩⟩⟩⟩⟩⟩⟩⟩
def G : Glo := { gf := ([("is_integer", 0), ("is_between", 1), ("are_between", 2), ("is_rising", 3), ("is_rising_row", 4), ("divisor", 5), ("check_great", 6), ("made_of", 7), ("whole_period", 8), ("check_period", 9), ("is_known", 10), ("check_interval", 11), ("grouped", 12), ("inner_blocks", 13), ("whole_blocks", 14), ("touched_blocks", 15), ("rounded_out", 16), ("rounded_in", 17), ("moved_by", 18), ("lengths_of", 19), ("steady_lengths", 20), ("longest_block", 21), ("aligned", 22), ("_law_cell", 23), ("_law_box", 24), ("_law_take", 25), ("_law_same", 26), ("_law_interval", 27), ("_law_copy", 28), ("_law_blamed", 29)] : List (Str × Nat)) ++ ([("_law_kept", 30), ("_law_grain", 31), ("_law_at", 32), ("_law_span", 33), ("_law_form", 34), ("_law_common", 35), ("_law_no_number", 36), ("_law_asked", 37), ("_law_both", 38), ("_law_grouped_right", 39), ("_law_interval_of", 40), ("_law_rounded_right", 41), ("_law_moved_right", 42), ("_law_aligned_right", 43), ("_law_refused_right", 44), ("law", 45)] : List (Str × Nat)), gc := [("IntervalError", 0), ("InvalidBlocks", 1), ("InvalidFirst", 2), ("InvalidIndex", 3), ("InvalidInterval", 4), ("InvalidMarks", 5), ("InvalidNumber", 6), ("InvalidPeriod", 7), ("TooLarge", 8), ("Grain", 9)], gv := [("MOST_PERIOD", 0), ("MOST_COMMON", 1), ("GREATEST", 2), ("MOST_INDEX", 3), ("FAR", 4), ("MOST_GROUP", 5), ("MOST_FIRST", 6), ("MOST_BLOCKS", 7), ("MOST_ALIGNED", 8)], mi := [("__eq__", 0), ("begins", 1), ("block", 2), ("form", 3), ("index_of", 4), ("low_of", 5), ("span", 6)], fi := [("known", 0), ("given", 1), ("count", 2), ("period", 3), ("marks", 4)], free := ["len", "abs", "int", "min", "max", "isinstance", "tuple", "str", "list", "dict", "bool", "range", "sorted", "set", "all", "any", "sum", "enumerate", "zip", "ValueError", "reversed"], par := defs.map (·.ps), kwp := [(12, 0, ["first", "number", "grain"], [2, 1, 0]), (14, 0, ["interval", "grain"], [1, 0]), (15, 0, ["interval", "grain"], [1, 0]), (16, 0, ["interval", "grain"], [1, 0]), (17, 0, ["interval", "grain"], [1, 0]), (18, 0, ["blocks", "number", "grain"], [2, 1, 0]), (20, 0, ["grain"], [0]), (21, 0, ["grain"], [0]), (22, 0, ["number", "other", "one"], [2, 1, 0]), (46, 1, ["period", "marks"], [0, 1, 2])], dfp := [(11, 1, [-1000, 1000])], mfs := [(0, [47]), (1, [48]), (5, [49]), (4, [50]), (2, [51]), (6, [52]), (3, [53])], cfs := [(9, 46)], exs := [0, 1, 2, 3, 4, 5, 6, 7, 8] }
def L : Lay := { fnm := ["known", "given", "count", "period", "marks"], cnm := ["IntervalError", "InvalidBlocks", "InvalidFirst", "InvalidIndex", "InvalidInterval", "InvalidMarks", "InvalidNumber", "InvalidPeriod", "TooLarge", "Grain"], fat := defs.map (·.d.at_), G := G, B := B }
theorem st_ok : L.st = true := by decide +kernel
theorem d_is_integer_ok : d_is_integer.ok L P 0 = true := by decide +kernel
theorem d_is_between_ok : d_is_between.ok L P 1 = true := by decide +kernel
theorem d_are_between_ok : d_are_between.ok L P 2 = true := by decide +kernel
theorem d_is_rising_ok : d_is_rising.ok L P 3 = true := by decide +kernel
theorem d_is_rising_row_ok : d_is_rising_row.ok L P 4 = true := by decide +kernel
theorem d_divisor_ok : d_divisor.ok L P 5 = true := by decide +kernel
theorem d_check_great_ok : d_check_great.ok L P 6 = true := by decide +kernel
theorem d_made_of_ok : d_made_of.ok L P 7 = true := by decide +kernel
theorem d_whole_period_ok : d_whole_period.ok L P 8 = true := by decide +kernel
theorem d_check_period_ok : d_check_period.ok L P 9 = true := by decide +kernel
theorem d_is_known_ok : d_is_known.ok L P 10 = true := by decide +kernel
theorem d_check_interval_ok : d_check_interval.ok L P 11 = true := by decide +kernel
theorem d_grouped_ok : d_grouped.ok L P 12 = true := by decide +kernel
theorem d_inner_blocks_ok : d_inner_blocks.ok L P 13 = true := by decide +kernel
theorem d_whole_blocks_ok : d_whole_blocks.ok L P 14 = true := by decide +kernel
theorem d_touched_blocks_ok : d_touched_blocks.ok L P 15 = true := by decide +kernel
theorem d_rounded_out_ok : d_rounded_out.ok L P 16 = true := by decide +kernel
theorem d_rounded_in_ok : d_rounded_in.ok L P 17 = true := by decide +kernel
theorem d_moved_by_ok : d_moved_by.ok L P 18 = true := by decide +kernel
theorem d_lengths_of_ok : d_lengths_of.ok L P 19 = true := by decide +kernel
theorem d_steady_lengths_ok : d_steady_lengths.ok L P 20 = true := by decide +kernel
theorem d_longest_block_ok : d_longest_block.ok L P 21 = true := by decide +kernel
theorem d_aligned_ok : d_aligned.ok L P 22 = true := by decide +kernel
theorem d__law_cell_ok : d__law_cell.ok L P 23 = true := by decide +kernel
theorem d__law_box_ok : d__law_box.ok L P 24 = true := by decide +kernel
theorem d__law_take_ok : d__law_take.ok L P 25 = true := by decide +kernel
theorem d__law_same_ok : d__law_same.ok L P 26 = true := by decide +kernel
theorem d__law_interval_ok : d__law_interval.ok L P 27 = true := by decide +kernel
theorem d__law_copy_ok : d__law_copy.ok L P 28 = true := by decide +kernel
theorem d__law_blamed_ok : d__law_blamed.ok L P 29 = true := by decide +kernel
theorem d__law_kept_ok : d__law_kept.ok L P 30 = true := by decide +kernel
theorem d__law_grain_ok : d__law_grain.ok L P 31 = true := by decide +kernel
theorem d__law_at_ok : d__law_at.ok L P 32 = true := by decide +kernel
theorem d__law_span_ok : d__law_span.ok L P 33 = true := by decide +kernel
theorem d__law_form_ok : d__law_form.ok L P 34 = true := by decide +kernel
theorem d__law_common_ok : d__law_common.ok L P 35 = true := by decide +kernel
theorem d__law_no_number_ok : d__law_no_number.ok L P 36 = true := by decide +kernel
theorem d__law_asked_ok : d__law_asked.ok L P 37 = true := by decide +kernel
theorem d__law_both_ok : d__law_both.ok L P 38 = true := by decide +kernel
theorem d__law_grouped_right_ok : d__law_grouped_right.ok L P 39 = true := by decide +kernel
theorem d__law_interval_of_ok : d__law_interval_of.ok L P 40 = true := by decide +kernel
theorem d__law_rounded_right_ok : d__law_rounded_right.ok L P 41 = true := by decide +kernel
theorem d__law_moved_right_ok : d__law_moved_right.ok L P 42 = true := by decide +kernel
theorem d__law_aligned_right_ok : d__law_aligned_right.ok L P 43 = true := by decide +kernel
theorem d__law_refused_right_ok : d__law_refused_right.ok L P 44 = true := by decide +kernel
theorem d_law_ok : d_law.ok L P 45 = true := by decide +kernel
theorem d_Grain___init___ok : d_Grain___init__.ok L P 46 = true := by decide +kernel
theorem d_Grain___eq___ok : d_Grain___eq__.ok L P 47 = true := by decide +kernel
theorem d_Grain_begins_ok : d_Grain_begins.ok L P 48 = true := by decide +kernel
theorem d_Grain_low_of_ok : d_Grain_low_of.ok L P 49 = true := by decide +kernel
theorem d_Grain_index_of_ok : d_Grain_index_of.ok L P 50 = true := by decide +kernel
theorem d_Grain_block_ok : d_Grain_block.ok L P 51 = true := by decide +kernel
theorem d_Grain_span_ok : d_Grain_span.ok L P 52 = true := by decide +kernel
theorem d_Grain_form_ok : d_Grain_form.ok L P 53 = true := by decide +kernel
theorem defs_ok : defsOk L P 0 defs = true := by
  unfold defs
  simp only [List.cons_append, List.nil_append, defsOk, Nat.zero_add, Nat.reduceAdd, d_is_integer_ok, d_is_between_ok, d_are_between_ok, d_is_rising_ok, d_is_rising_row_ok, d_divisor_ok, d_check_great_ok, d_made_of_ok, d_whole_period_ok, d_check_period_ok, d_is_known_ok, d_check_interval_ok, d_grouped_ok, d_inner_blocks_ok, d_whole_blocks_ok, d_touched_blocks_ok, d_rounded_out_ok, d_rounded_in_ok, d_moved_by_ok, d_lengths_of_ok, d_steady_lengths_ok, d_longest_block_ok, d_aligned_ok, d__law_cell_ok, d__law_box_ok, d__law_take_ok, d__law_same_ok, d__law_interval_ok, d__law_copy_ok, d__law_blamed_ok, d__law_kept_ok, d__law_grain_ok, d__law_at_ok, d__law_span_ok, d__law_form_ok, d__law_common_ok, d__law_no_number_ok, d__law_asked_ok, d__law_both_ok, d__law_grouped_right_ok, d__law_interval_of_ok, d__law_rounded_right_ok, d__law_moved_right_ok, d__law_aligned_right_ok, d__law_refused_right_ok, d_law_ok, d_Grain___init___ok, d_Grain___eq___ok, d_Grain_begins_ok, d_Grain_low_of_ok, d_Grain_index_of_ok, d_Grain_block_ok, d_Grain_span_ok, d_Grain_form_ok, Bool.and_true]
theorem exs_ok : exsOk L L.B.exfs exs = true := by decide +kernel
end K77
end

section
set_option Elab.async false
set_option linter.all false
set_option maxRecDepth 100000
set_option maxHeartbeats 0
/-! The head of law_k77. -/
namespace K77
open MP PySem PySem.Spec PyProof.Rows L2
def fnl : List He.DefD := (defs ++ exs).map (·.d)
def loose : List Str := (["IntervalError", "InvalidBlocks", "InvalidFirst", "InvalidIndex", "InvalidInterval", "InvalidMarks", "InvalidNumber", "InvalidPeriod", "TooLarge", "is_integer", "is_between", "are_between", "is_rising", "is_rising_row", "divisor", "MOST_PERIOD", "MOST_COMMON", "GREATEST", "MOST_INDEX", "Grain", "check_great", "made_of", "whole_period", "check_period", "FAR", "is_known", "check_interval", "MOST_GROUP", "MOST_FIRST", "MOST_BLOCKS"] : List Str) ++ (["MOST_ALIGNED", "grouped", "inner_blocks", "whole_blocks", "touched_blocks", "rounded_out", "rounded_in", "moved_by", "lengths_of", "steady_lengths", "longest_block", "aligned", "_law_cell", "_law_box", "_law_take", "_law_same", "_law_interval", "_law_copy", "_law_blamed", "_law_kept", "_law_grain", "_law_at", "_law_span", "_law_form", "_law_common", "_law_no_number", "_law_asked", "_law_both", "_law_grouped_right", "_law_interval_of"] : List Str) ++ (["_law_rounded_right", "_law_moved_right", "_law_aligned_right", "_law_refused_right"] : List Str)
abbrev Rw : PySem.W.OpenRow := PySem.W.OpenLaw.row PySem.Challenge.rw_intervalbench_k77_grouped_rounded_moved
abbrev hk : PySem.W.Hook := hookM 5 L fnl
def ob (s : PySem.W.SharedT) : He.AlD := obsMG 5 L fnl (HandSHeadRun.getT s)
theorem ob_eq (s : PySem.W.SharedT) : ob s = hk.obs s.abs := obsMG_eq (HandSHeadRun.getT_eq s)
theorem run0 (w : World) : HandSHeadRun.RunEq Rw (PySem.W.view Rw.prog [71]) hk ob 9000 loose w := by
  intro os
  kernel_rfl
end K77
open PySem PySem.W PySem.Calls PyProof.Rows
theorem K77.holds (run : ∀ ns : List Int, ns.length ≤ 63 → (MP.callN K77.P (30 + 1) 45 [.ref 0] [.frz (ns.map .int)]).yes = true) : PySem.Challenge.rw_intervalbench_k77_grouped_rounded_moved.Holds := by
  w_on; o_law
  refine HandSHeadRun.head_any (r := OpenLaw.row PySem.Challenge.rw_intervalbench_k77_grouped_rounded_moved) (q := view (OpenLaw.row PySem.Challenge.rw_intervalbench_k77_grouped_rounded_moved).prog [71]) (H := K77.hk) (ob := K77.ob) (M := 9000) (loose := K77.loose) (d := HandSHeadRun.topDef (OpenLaw.row PySem.Challenge.rw_intervalbench_k77_grouped_rounded_moved).prog 71) (kwd := []) K77.ob_eq
    (by kernel_rfl) (fun s => by kernel_rfl) K77.run0 (by kernel_rfl) (by kernel_rfl) (by kernel_rfl) (by rfl) (by first | assumption | decide +kernel) (by decide +kernel) ⟨rfl, rfl, rfl, rfl, rfl, by decide +kernel⟩ ?hw ?hc
  case hw => w_witness2
  case hc => exact MP.walk_mp (l := PySem.Challenge.rw_intervalbench_k77_grouped_rounded_moved) (n := 63) (fl := 45) (lx := K77.d_law) rfl (by decide) (by kernel_rfl) ⟨rfl, by decide, by decide⟩ rfl K77.st_ok (by decide +kernel) K77.defs_ok K77.exs_ok K77.defs_b K77.exs_b (by decide +kernel) (by rfl) rfl rfl run
end

section
set_option Elab.async false
set_option linter.all false
set_option maxRecDepth 100000
set_option maxHeartbeats 8000000
/-! law_k77: the calls, the tables. -/
namespace K77
open MP
theorem c_is_integer {n : Nat} {a0 : W} {h : Hs} : callN P (n + 1) 0 [a0] h = fin h.length (evSs P.T (callN P n) P.wf b_is_integer [some a0] h) := callN_eq (d := ⟨1, 1, b_is_integer⟩) rfl rfl
theorem c_is_between {n : Nat} {a0 a1 a2 : W} {h : Hs} : callN P (n + 1) 1 [a0, a1, a2] h = fin h.length (evSs P.T (callN P n) P.wf b_is_between [some a0, some a1, some a2] h) := callN_eq (d := ⟨3, 3, b_is_between⟩) rfl rfl
theorem c_are_between {n : Nat} {a0 a1 a2 : W} {h : Hs} : callN P (n + 1) 2 [a0, a1, a2] h = fin h.length (evSs P.T (callN P n) P.wf b_are_between [some a0, some a1, some a2, none] h) := callN_eq (d := ⟨3, 4, b_are_between⟩) rfl rfl
theorem c_is_rising {n : Nat} {a0 : W} {h : Hs} : callN P (n + 1) 3 [a0] h = fin h.length (evSs P.T (callN P n) P.wf b_is_rising [some a0, none] h) := callN_eq (d := ⟨1, 2, b_is_rising⟩) rfl rfl
theorem c_is_rising_row {n : Nat} {a0 a1 a2 : W} {h : Hs} : callN P (n + 1) 4 [a0, a1, a2] h = fin h.length (evSs P.T (callN P n) P.wf b_is_rising_row [some a0, some a1, some a2] h) := callN_eq (d := ⟨3, 3, b_is_rising_row⟩) rfl rfl
theorem c_divisor {n : Nat} {a0 a1 : W} {h : Hs} : callN P (n + 1) 5 [a0, a1] h = fin h.length (evSs P.T (callN P n) P.wf b_divisor [some a0, some a1, none, none] h) := callN_eq (d := ⟨2, 4, b_divisor⟩) rfl rfl
theorem c_check_great {n : Nat} {a0 : W} {h : Hs} : callN P (n + 1) 6 [a0] h = fin h.length (evSs P.T (callN P n) P.wf b_check_great [some a0] h) := callN_eq (d := ⟨1, 1, b_check_great⟩) rfl rfl
theorem c_made_of {n : Nat} {a0 a1 : W} {h : Hs} : callN P (n + 1) 7 [a0, a1] h = fin h.length (evSs P.T (callN P n) P.wf b_made_of [some a0, some a1, none, none] h) := callN_eq (d := ⟨2, 4, b_made_of⟩) rfl rfl
theorem c_whole_period {n : Nat} {a0 a1 : W} {h : Hs} : callN P (n + 1) 8 [a0, a1] h = fin h.length (evSs P.T (callN P n) P.wf b_whole_period [some a0, some a1] h) := callN_eq (d := ⟨2, 2, b_whole_period⟩) rfl rfl
theorem c_check_period {n : Nat} {a0 : W} {h : Hs} : callN P (n + 1) 9 [a0] h = fin h.length (evSs P.T (callN P n) P.wf b_check_period [some a0] h) := callN_eq (d := ⟨1, 1, b_check_period⟩) rfl rfl
theorem c_is_known {n : Nat} {a0 a1 a2 : W} {h : Hs} : callN P (n + 1) 10 [a0, a1, a2] h = fin h.length (evSs P.T (callN P n) P.wf b_is_known [some a0, some a1, some a2] h) := callN_eq (d := ⟨3, 3, b_is_known⟩) rfl rfl
theorem c_check_interval {n : Nat} {a0 a1 a2 : W} {h : Hs} : callN P (n + 1) 11 [a0, a1, a2] h = fin h.length (evSs P.T (callN P n) P.wf b_check_interval [some a0, some a1, some a2] h) := callN_eq (d := ⟨3, 3, b_check_interval⟩) rfl rfl
theorem c_grouped {n : Nat} {a0 a1 a2 : W} {h : Hs} : callN P (n + 1) 12 [a0, a1, a2] h = fin h.length (evSs P.T (callN P n) P.wf b_grouped [some a0, some a1, some a2, none, none, none, none, none] h) := callN_eq (d := ⟨3, 8, b_grouped⟩) rfl rfl
theorem c_inner_blocks {n : Nat} {a0 a1 : W} {h : Hs} : callN P (n + 1) 13 [a0, a1] h = fin h.length (evSs P.T (callN P n) P.wf b_inner_blocks [some a0, some a1, none, none] h) := callN_eq (d := ⟨2, 4, b_inner_blocks⟩) rfl rfl
theorem c_whole_blocks {n : Nat} {a0 a1 : W} {h : Hs} : callN P (n + 1) 14 [a0, a1] h = fin h.length (evSs P.T (callN P n) P.wf b_whole_blocks [some a0, some a1] h) := callN_eq (d := ⟨2, 2, b_whole_blocks⟩) rfl rfl
theorem c_touched_blocks {n : Nat} {a0 a1 : W} {h : Hs} : callN P (n + 1) 15 [a0, a1] h = fin h.length (evSs P.T (callN P n) P.wf b_touched_blocks [some a0, some a1] h) := callN_eq (d := ⟨2, 2, b_touched_blocks⟩) rfl rfl
theorem c_rounded_out {n : Nat} {a0 a1 : W} {h : Hs} : callN P (n + 1) 16 [a0, a1] h = fin h.length (evSs P.T (callN P n) P.wf b_rounded_out [some a0, some a1] h) := callN_eq (d := ⟨2, 2, b_rounded_out⟩) rfl rfl
theorem c_rounded_in {n : Nat} {a0 a1 : W} {h : Hs} : callN P (n + 1) 17 [a0, a1] h = fin h.length (evSs P.T (callN P n) P.wf b_rounded_in [some a0, some a1, none] h) := callN_eq (d := ⟨2, 3, b_rounded_in⟩) rfl rfl
theorem c_moved_by {n : Nat} {a0 a1 a2 : W} {h : Hs} : callN P (n + 1) 18 [a0, a1, a2] h = fin h.length (evSs P.T (callN P n) P.wf b_moved_by [some a0, some a1, some a2, none, none, none] h) := callN_eq (d := ⟨3, 6, b_moved_by⟩) rfl rfl
theorem c_lengths_of {n : Nat} {a0 : W} {h : Hs} : callN P (n + 1) 19 [a0] h = fin h.length (evSs P.T (callN P n) P.wf b_lengths_of [some a0, none] h) := callN_eq (d := ⟨1, 2, b_lengths_of⟩) rfl rfl
theorem c_steady_lengths {n : Nat} {a0 : W} {h : Hs} : callN P (n + 1) 20 [a0] h = fin h.length (evSs P.T (callN P n) P.wf b_steady_lengths [some a0] h) := callN_eq (d := ⟨1, 1, b_steady_lengths⟩) rfl rfl
theorem c_longest_block {n : Nat} {a0 : W} {h : Hs} : callN P (n + 1) 21 [a0] h = fin h.length (evSs P.T (callN P n) P.wf b_longest_block [some a0, none] h) := callN_eq (d := ⟨1, 2, b_longest_block⟩) rfl rfl
theorem c_aligned {n : Nat} {a0 a1 a2 : W} {h : Hs} : callN P (n + 1) 22 [a0, a1, a2] h = fin h.length (evSs P.T (callN P n) P.wf b_aligned [some a0, some a1, some a2, none, none] h) := callN_eq (d := ⟨3, 5, b_aligned⟩) rfl rfl
theorem c__law_cell {n : Nat} {a0 a1 : W} {h : Hs} : callN P (n + 1) 23 [a0, a1] h = fin h.length (evSs P.T (callN P n) P.wf b__law_cell [some a0, some a1] h) := callN_eq (d := ⟨2, 2, b__law_cell⟩) rfl rfl
theorem c__law_box {n : Nat} {a0 : W} {h : Hs} : callN P (n + 1) 24 [a0] h = fin h.length (evSs P.T (callN P n) P.wf b__law_box [some a0] h) := callN_eq (d := ⟨1, 1, b__law_box⟩) rfl rfl
theorem c__law_take {n : Nat} {a0 a1 : W} {h : Hs} : callN P (n + 1) 25 [a0, a1] h = fin h.length (evSs P.T (callN P n) P.wf b__law_take [some a0, some a1, none, none] h) := callN_eq (d := ⟨2, 4, b__law_take⟩) rfl rfl
theorem c__law_same {n : Nat} {a0 a1 : W} {h : Hs} : callN P (n + 1) 26 [a0, a1] h = fin h.length (evSs P.T (callN P n) P.wf b__law_same [some a0, some a1, none] h) := callN_eq (d := ⟨2, 3, b__law_same⟩) rfl rfl
theorem c__law_interval {n : Nat} {a0 a1 a2 : W} {h : Hs} : callN P (n + 1) 27 [a0, a1, a2] h = fin h.length (evSs P.T (callN P n) P.wf b__law_interval [some a0, some a1, some a2, none] h) := callN_eq (d := ⟨3, 4, b__law_interval⟩) rfl rfl
theorem c__law_copy {n : Nat} {a0 : W} {h : Hs} : callN P (n + 1) 28 [a0] h = fin h.length (evSs P.T (callN P n) P.wf b__law_copy [some a0, none, none] h) := callN_eq (d := ⟨1, 3, b__law_copy⟩) rfl rfl
theorem c__law_blamed {n : Nat} {a0 a1 : W} {h : Hs} : callN P (n + 1) 29 [a0, a1] h = fin h.length (evSs P.T (callN P n) P.wf b__law_blamed [some a0, some a1] h) := callN_eq (d := ⟨2, 2, b__law_blamed⟩) rfl rfl
theorem c__law_kept {n : Nat} {a0 a1 a2 : W} {h : Hs} : callN P (n + 1) 30 [a0, a1, a2] h = fin h.length (evSs P.T (callN P n) P.wf b__law_kept [some a0, some a1, some a2] h) := callN_eq (d := ⟨3, 3, b__law_kept⟩) rfl rfl
theorem c__law_grain {n : Nat} {a0 a1 : W} {h : Hs} : callN P (n + 1) 31 [a0, a1] h = fin h.length (evSs P.T (callN P n) P.wf b__law_grain [some a0, some a1, none, none, none, none, none] h) := callN_eq (d := ⟨2, 7, b__law_grain⟩) rfl rfl
theorem c__law_at {n : Nat} {a0 a1 : W} {h : Hs} : callN P (n + 1) 32 [a0, a1] h = fin h.length (evSs P.T (callN P n) P.wf b__law_at [some a0, some a1, none, none, none, none, none, none, none] h) := callN_eq (d := ⟨2, 9, b__law_at⟩) rfl rfl
theorem c__law_span {n : Nat} {a0 a1 : W} {h : Hs} : callN P (n + 1) 33 [a0, a1] h = fin h.length (evSs P.T (callN P n) P.wf b__law_span [some a0, some a1, none, none, none, none] h) := callN_eq (d := ⟨2, 6, b__law_span⟩) rfl rfl
theorem c__law_form {n : Nat} {a0 : W} {h : Hs} : callN P (n + 1) 34 [a0] h = fin h.length (evSs P.T (callN P n) P.wf b__law_form [some a0, none, none, none, none, none] h) := callN_eq (d := ⟨1, 6, b__law_form⟩) rfl rfl
theorem c__law_common {n : Nat} {a0 a1 : W} {h : Hs} : callN P (n + 1) 35 [a0, a1] h = fin h.length (evSs P.T (callN P n) P.wf b__law_common [some a0, some a1, none, none] h) := callN_eq (d := ⟨2, 4, b__law_common⟩) rfl rfl
theorem c__law_no_number {n : Nat} {a0 a1 a2 : W} {h : Hs} : callN P (n + 1) 36 [a0, a1, a2] h = fin h.length (evSs P.T (callN P n) P.wf b__law_no_number [some a0, some a1, some a2, none] h) := callN_eq (d := ⟨3, 4, b__law_no_number⟩) rfl rfl
theorem c__law_asked {n : Nat} {a0 a1 a2 a3 a4 : W} {h : Hs} : callN P (n + 1) 37 [a0, a1, a2, a3, a4] h = fin h.length (evSs P.T (callN P n) P.wf b__law_asked [some a0, some a1, some a2, some a3, some a4, none] h) := callN_eq (d := ⟨5, 6, b__law_asked⟩) rfl rfl
theorem c__law_both {n : Nat} {a0 a1 a2 a3 a4 : W} {h : Hs} : callN P (n + 1) 38 [a0, a1, a2, a3, a4] h = fin h.length (evSs P.T (callN P n) P.wf b__law_both [some a0, some a1, some a2, some a3, some a4, none] h) := callN_eq (d := ⟨5, 6, b__law_both⟩) rfl rfl
theorem c__law_grouped_right {n : Nat} {a0 a1 a2 : W} {h : Hs} : callN P (n + 1) 39 [a0, a1, a2] h = fin h.length (evSs P.T (callN P n) P.wf b__law_grouped_right [some a0, some a1, some a2, none, none, none, none, none, none, none, none, none, none, none, none] h) := callN_eq (d := ⟨3, 15, b__law_grouped_right⟩) rfl rfl
theorem c__law_interval_of {n : Nat} {a0 a1 : W} {h : Hs} : callN P (n + 1) 40 [a0, a1] h = fin h.length (evSs P.T (callN P n) P.wf b__law_interval_of [some a0, some a1, none, none, none, none] h) := callN_eq (d := ⟨2, 6, b__law_interval_of⟩) rfl rfl
theorem c__law_rounded_right {n : Nat} {a0 a1 a2 : W} {h : Hs} : callN P (n + 1) 41 [a0, a1, a2] h = fin h.length (evSs P.T (callN P n) P.wf b__law_rounded_right [some a0, some a1, some a2, none, none, none, none, none, none, none, none, none, none] h) := callN_eq (d := ⟨3, 13, b__law_rounded_right⟩) rfl rfl
theorem c__law_moved_right {n : Nat} {a0 a1 a2 : W} {h : Hs} : callN P (n + 1) 42 [a0, a1, a2] h = fin h.length (evSs P.T (callN P n) P.wf b__law_moved_right [some a0, some a1, some a2, none, none, none, none, none, none, none, none, none, none, none] h) := callN_eq (d := ⟨3, 14, b__law_moved_right⟩) rfl rfl
theorem c__law_aligned_right {n : Nat} {a0 a1 a2 : W} {h : Hs} : callN P (n + 1) 43 [a0, a1, a2] h = fin h.length (evSs P.T (callN P n) P.wf b__law_aligned_right [some a0, some a1, some a2, none, none, none, none, none, none, none, none, none, none] h) := callN_eq (d := ⟨3, 13, b__law_aligned_right⟩) rfl rfl
theorem c__law_refused_right {n : Nat} {a0 a1 : W} {h : Hs} : callN P (n + 1) 44 [a0, a1] h = fin h.length (evSs P.T (callN P n) P.wf b__law_refused_right [some a0, some a1, none, none, none, none, none, none] h) := callN_eq (d := ⟨2, 8, b__law_refused_right⟩) rfl rfl
theorem c_law {n : Nat} {a0 : W} {h : Hs} : callN P (n + 1) 45 [a0] h = fin h.length (evSs P.T (callN P n) P.wf b_law [some a0, none, none, none, none, none] h) := callN_eq (d := ⟨1, 6, b_law⟩) rfl rfl
theorem c_Grain___init__ {n : Nat} {a0 a1 a2 : W} {h : Hs} : callN P (n + 1) 46 [a0, a1, a2] h = fin h.length (evSs P.T (callN P n) P.wf b_Grain___init__ [some a0, some a1, some a2, none] h) := callN_eq (d := ⟨3, 4, b_Grain___init__⟩) rfl rfl
theorem c_Grain___eq__ {n : Nat} {a0 a1 : W} {h : Hs} : callN P (n + 1) 47 [a0, a1] h = fin h.length (evSs P.T (callN P n) P.wf b_Grain___eq__ [some a0, some a1] h) := callN_eq (d := ⟨2, 2, b_Grain___eq__⟩) rfl rfl
theorem c_Grain_begins {n : Nat} {a0 a1 : W} {h : Hs} : callN P (n + 1) 48 [a0, a1] h = fin h.length (evSs P.T (callN P n) P.wf b_Grain_begins [some a0, some a1] h) := callN_eq (d := ⟨2, 2, b_Grain_begins⟩) rfl rfl
theorem c_Grain_low_of {n : Nat} {a0 a1 : W} {h : Hs} : callN P (n + 1) 49 [a0, a1] h = fin h.length (evSs P.T (callN P n) P.wf b_Grain_low_of [some a0, some a1, none] h) := callN_eq (d := ⟨2, 3, b_Grain_low_of⟩) rfl rfl
theorem c_Grain_index_of {n : Nat} {a0 a1 : W} {h : Hs} : callN P (n + 1) 50 [a0, a1] h = fin h.length (evSs P.T (callN P n) P.wf b_Grain_index_of [some a0, some a1, none, none, none] h) := callN_eq (d := ⟨2, 5, b_Grain_index_of⟩) rfl rfl
theorem c_Grain_block {n : Nat} {a0 a1 : W} {h : Hs} : callN P (n + 1) 51 [a0, a1] h = fin h.length (evSs P.T (callN P n) P.wf b_Grain_block [some a0, some a1] h) := callN_eq (d := ⟨2, 2, b_Grain_block⟩) rfl rfl
theorem c_Grain_span {n : Nat} {a0 a1 : W} {h : Hs} : callN P (n + 1) 52 [a0, a1] h = fin h.length (evSs P.T (callN P n) P.wf b_Grain_span [some a0, some a1] h) := callN_eq (d := ⟨2, 2, b_Grain_span⟩) rfl rfl
theorem c_Grain_form {n : Nat} {a0 : W} {h : Hs} : callN P (n + 1) 53 [a0] h = fin h.length (evSs P.T (callN P n) P.wf b_Grain_form [some a0, none, none] h) := callN_eq (d := ⟨1, 3, b_Grain_form⟩) rfl rfl
theorem T_exf0 : P.T.exf 0 = none := rfl
theorem T_plain0 : P.T.plain 0 = false := rfl
theorem T_exf1 : P.T.exf 1 = some [1] := rfl
theorem T_plain1 : P.T.plain 1 = false := rfl
theorem T_exf2 : P.T.exf 2 = some [1] := rfl
theorem T_plain2 : P.T.plain 2 = false := rfl
theorem T_exf3 : P.T.exf 3 = some [1] := rfl
theorem T_plain3 : P.T.plain 3 = false := rfl
theorem T_exf4 : P.T.exf 4 = some [1] := rfl
theorem T_plain4 : P.T.plain 4 = false := rfl
theorem T_exf5 : P.T.exf 5 = some [1] := rfl
theorem T_plain5 : P.T.plain 5 = false := rfl
theorem T_exf6 : P.T.exf 6 = some [1] := rfl
theorem T_plain6 : P.T.plain 6 = false := rfl
theorem T_exf7 : P.T.exf 7 = some [1] := rfl
theorem T_plain7 : P.T.plain 7 = false := rfl
theorem T_exf8 : P.T.exf 8 = some [2] := rfl
theorem T_plain8 : P.T.plain 8 = false := rfl
theorem T_plain9 : P.T.plain 9 = true := rfl
theorem T_g0 : P.T.glob 0 = g_MOST_PERIOD := rfl
theorem T_g1 : P.T.glob 1 = g_MOST_COMMON := rfl
theorem T_g2 : P.T.glob 2 = g_GREATEST := rfl
theorem T_g3 : P.T.glob 3 = g_MOST_INDEX := rfl
theorem T_g4 : P.T.glob 4 = g_FAR := rfl
theorem T_g5 : P.T.glob 5 = g_MOST_GROUP := rfl
theorem T_g6 : P.T.glob 6 = g_MOST_FIRST := rfl
theorem T_g7 : P.T.glob 7 = g_MOST_BLOCKS := rfl
theorem T_g8 : P.T.glob 8 = g_MOST_ALIGNED := rfl
theorem T_m47 : P.T.meth 9 0 = some 47 := rfl
theorem T_m48 : P.T.meth 9 1 = some 48 := rfl
theorem T_m49 : P.T.meth 9 5 = some 49 := rfl
theorem T_m50 : P.T.meth 9 4 = some 50 := rfl
theorem T_m51 : P.T.meth 9 2 = some 51 := rfl
theorem T_m52 : P.T.meth 9 6 = some 52 := rfl
theorem T_m53 : P.T.meth 9 3 = some 53 := rfl
def TB := And.intro @T_exf0 (And.intro @T_plain0 (And.intro @T_exf1 (And.intro @T_plain1 (And.intro @T_exf2 (And.intro @T_plain2 (And.intro @T_exf3 (And.intro @T_plain3 (And.intro @T_exf4 (And.intro @T_plain4 (And.intro @T_exf5 (And.intro @T_plain5 (And.intro @T_exf6 (And.intro @T_plain6 (And.intro @T_exf7 (And.intro @T_plain7 (And.intro @T_exf8 (And.intro @T_plain8 (And.intro @T_plain9 (And.intro @T_g0 (And.intro @T_g1 (And.intro @T_g2 (And.intro @T_g3 (And.intro @T_g4 (And.intro @T_g5 (And.intro @T_g6 (And.intro @T_g7 (And.intro @T_g8 (And.intro @T_m47 (And.intro @T_m48 (And.intro @T_m49 (And.intro @T_m50 (And.intro @T_m51 (And.intro @T_m52 (@T_m53))))))))))))))))))))))))))))))))))
end K77
end

section
set_option Elab.async false
set_option linter.all false
set_option maxRecDepth 100000
set_option maxHeartbeats 8000000
/-! k76: the small functions. -/
namespace K77
open MP
section
variable {n : Nat} {h : Hs}
theorem is_integer_v {w : W} {a b : Bool} (e1 : isTy h P.T .int w = some a) (e2 : isTy h P.T .bool w = some b) : callN P (n + 1) 0 [w] h = .ok (.bl (a && !b)) h := by
  rw [c_is_integer, b_is_integer]
  simp only [EV, EVS, EVR, bi_isi e1, bi_isi e2, tst_and]
theorem is_integer_int {i : Int} : callN P (n + 1) 0 [.int i] h = .ok (.bl true) h := is_integer_v (a := true) (b := false) rfl rfl
theorem is_between_int {i a b : Int} : callN P (n + 2) 1 [.int i, .int a, .int b] h = .ok (.bl (decide (a ≤ i) && decide (i ≤ b))) h := by
  rw [c_is_between, b_is_between]
  simp only [EV, EVS, EVR, is_integer_int, c2_le, tst_and]
theorem is_between_no {w : W} {a b : Int} {p q : Bool} (e1 : isTy h P.T .int w = some p) (e2 : isTy h P.T .bool w = some q) (e : (p && !q) = false) : callN P (n + 2) 1 [w, .int a, .int b] h = .ok (.bl false) h := by
  rw [c_is_between, b_is_between]
  simp only [EV, EVS, EVR, is_integer_v e1 e2, e]
theorem are_between_wI {l : List Int} {a b : Int} (hz : l.length ≤ SZ) : callN P (n + 3) 2 [.tup (wI l), .int a, .int b] h = .ok (.bl (l.all fun i => decide (a ≤ i) && decide (i ≤ b))) h := by
  rw [c_are_between, b_are_between]
  simp only [EV, EVS, EVR, seq_tup]
  rw [cRun_map (fun i => .bl (decide (a ≤ i) && decide (i ≤ b))) hz rfl fun i _ => ?_]
  · rw [show (l.map fun i => W.bl (decide (a ≤ i) && decide (i ≤ b))) = (l.map fun i => (decide (a ≤ i) && decide (i ≤ b))).map W.bl by rw [List.map_map]; rfl]
    simp only [EV, EVS, EVR, lb_all, List.all_map, Function.comp_def, id]
  · simp only [EV, EVS, EVR, is_between_int]
/-- strictly ascending -/
def risB (l : List Int) : Bool := (iot 0 (l.length - 1)).all fun i => decide (l.getD i.toNat 0 < l.getD (i + 1).toNat 0)
theorem is_rising_wI {l : List Int} (hz : l.length ≤ SZ) : callN P (n + 1) 3 [.tup (wI l)] h = .ok (.bl (risB l)) h := by
  rw [c_is_rising, b_is_rising]
  have z : SZ = 16777216 := rfl
  have e1 : ((wI l).length : Int) - 1 = (l.length : Int) - 1 := by rw [wI_len]
  simp only [EV, EVS, EVR, len_tup, op2, e1]
  rw [rng1 (by omega) (by omega)]
  simp only [EV, EVS, EVR]
  rw [cRun_map (fun i => .bl (decide (l.getD i.toNat 0 < l.getD (i + 1).toNat 0))) (by rw [iot_len]; omega) rfl fun i hi => ?_]
  · rw [show ((iot 0 ((l.length : Int) - 1).toNat).map fun i => W.bl (decide (l.getD i.toNat 0 < l.getD (i + 1).toNat 0))) = ((iot 0 ((l.length : Int) - 1).toNat).map fun i => decide (l.getD i.toNat 0 < l.getD (i + 1).toNat 0)).map W.bl by rw [List.map_map]; rfl]
    simp only [EV, EVS, EVR, lb_all, List.all_map, Function.comp_def, id]
    unfold risB
    rw [show ((l.length : Int) - 1).toNat = l.length - 1 by omega]
  · have hi := iot_mem.mp hi
    have g : ∀ k : Int, 0 ≤ k → k < l.length → (wI l)[k.toNat]? = some (.int (l.getD k.toNat 0)) := fun k k0 k1 => by
      unfold wI
      rw [List.getElem?_map, List.getD_eq_getElem?_getD, List.getElem?_eq_getElem (by omega)]
      rfl
    simp only [EV, EVS, EVR, op2]
    rw [idx_tup (by omega) (g i (by omega) (by omega))]
    simp only [EV, EVS, EVR, op2]
    rw [idx_tup (by omega) (g (i + 1) (by omega) (by omega))]
    simp only [EV, EVS, EVR, cv_lt]
theorem is_rising_row_wI {l : List Int} {a b : Int} (hz : l.length ≤ SZ) : callN P (n + 4) 4 [.tup (wI l), .int a, .int b] h = .ok (.bl ((l.all fun i => decide (a ≤ i) && decide (i ≤ b)) && risB l)) h := by
  rw [c_is_rising_row, b_is_rising_row]
  rw [eSs_cons, eS_ret]
  simp only [EV, EVS, EVR, bi_isi (show isTy h P.T .tuple (.tup (wI l)) = some true from rfl), are_between_wI hz, is_rising_wI hz, tst_and]
end
end K77
end

section
set_option Elab.async false
set_option linter.all false
set_option maxRecDepth 100000
set_option maxHeartbeats 8000000
/-! k76: a grain's methods, the law's own reckoning. -/
namespace K77
open MP
section
variable {n : Nat} {h : Hs}
theorem gcd_loop {cal : Nat → List W → Hs → R W} {x y : Option W} : ∀ (m a b : Nat), b < m → wRun P.T cal P.wf (.cmp .ne (.var 3) (.int 0)) (.cons (.asgT [2, 3] (.cons (.var 3) (.cons (.op .mod (.var 2) (.var 3)) .nil))) .nil) m [x, y, some (.int a), some (.int b)] h = .ok (.next [x, y, some (.int (Nat.gcd a b : Nat)), some (.int 0)]) h := by
  intro m
  induction m with
  | zero => intro a b hb; omega
  | succ m ih =>
    intro a b hb
    rw [wRun_s]
    simp only [EV, EVS, EVR, cv_ne]
    by_cases e : b = 0
    · subst e
      simp only [Nat.gcd_zero_right, Int.natCast_zero, decide_true, Bool.not_true, EVR]
    · have e2 : decide ((b : Int) = 0) = false := by simpa using e
      rw [e2]
      simp only [Bool.not_false, EVR, o_mod (show (0 : Int) < (b : Int) by omega), EV, EVS]
      have := ih b (a % b) (by have := Nat.mod_lt a (by omega : 0 < b); omega)
      rw [show ((a : Int) % (b : Int)) = ((a % b : Nat) : Int) by omega, this]
      rw [Nat.gcd_comm a b, Nat.gcd_rec b a, Nat.gcd_comm]
theorem gcd_loop2 {cal : Nat → List W → Hs → R W} {x y : Option W} : ∀ (m a b : Nat), b < m → wRun P.T cal P.wf (.cmp .ne (.var 3) (.int 0)) (.cons (.asgT [2, 3] (.cons (.var 3) (.cons (.op .mod (.bi .int (.cons (.var 2) .nil)) (.var 3)) .nil))) .nil) m [x, y, some (.int a), some (.int b)] h = .ok (.next [x, y, some (.int (Nat.gcd a b : Nat)), some (.int 0)]) h := by
  intro m
  induction m with
  | zero => intro a b hb; omega
  | succ m ih =>
    intro a b hb
    rw [wRun_s]
    simp only [EV, EVS, EVR, cv_ne]
    by_cases e : b = 0
    · subst e
      simp only [Nat.gcd_zero_right, Int.natCast_zero, decide_true, Bool.not_true, EVR]
    · have e2 : decide ((b : Int) = 0) = false := by simpa using e
      rw [e2]
      simp only [Bool.not_false, EVR, o_mod (show (0 : Int) < (b : Int) by omega), EV, EVS, bi1]
      have := ih b (a % b) (by have := Nat.mod_lt a (by omega : 0 < b); omega)
      rw [show ((a : Int) % (b : Int)) = ((a % b : Nat) : Int) by omega, this]
      rw [Nat.gcd_comm a b, Nat.gcd_rec b a, Nat.gcd_comm]
theorem divisor_eq {p q : Nat} (hq : q < 100000) : callN P (n + 1) 5 [.int p, .int q] h = .ok (.int (Nat.gcd p q : Nat)) h := by
  rw [c_divisor, b_divisor]
  have e1 : ∀ k : Nat, bi1 h P.T .abs [.int (k : Int)] = .ok (.int (k : Int)) h := fun k => by
    show R.ok (W.int (if (k : Int) < 0 then -(k : Int) else k)) h = _
    rw [if_neg (by omega)]
  simp only [EV, EVS, EVR, e1]
  rw [gcd_loop P.wf p q hq]
  simp only [EV, EVS, EVR]
theorem common_eq {p q : Nat} (hp : 0 < p) (hq0 : 0 < q) (hq : q < 100000) (hp2 : p < 100000) : callN P (n + 1) 35 [.int p, .int q] h = .ok (.int (Nat.lcm p q : Nat)) h := by
  rw [c__law_common, b__law_common]
  simp only [EV, EVS, EVR]
  rw [gcd_loop2 P.wf p q hq]
  have g0 : 0 < Nat.gcd p q := Nat.gcd_pos_of_pos_left q hp
  have g1 : Nat.gcd p q ≤ q := Nat.gcd_le_right p hq0
  simp only [EV, EVS, EVR]
  rw [o_mulL (by omega)]
  simp only [EV, EVS, EVR]
  rw [o_fdiv (by omega) (by omega)]
  simp only [EV, EVS, EVR]
  congr 2
end
end K77
end

section
set_option Elab.async false
set_option linter.all false
set_option maxRecDepth 100000
set_option maxHeartbeats 8000000
/-! k76: a grain's methods. -/
namespace K77
open MP
/-- what a grain is -/
structure GOk (p : Int) (l : List Int) : Prop where
  p1 : 1 ≤ p
  p2 : p ≤ 3600
  ne : l ≠ []
  pw : l.Pairwise (· < ·)
  rg : ∀ m ∈ l, 0 ≤ m ∧ m < p
theorem pw_len : ∀ (l : List Int) (a b : Int), l.Pairwise (· < ·) → (∀ m ∈ l, a ≤ m ∧ m < b) → (l.length : Int) ≤ b - a ∨ l = []
  | [], _, _, _, _ => .inr rfl
  | x :: l, a, b, pw, h => by
    left
    obtain ⟨h1, h2⟩ := List.pairwise_cons.mp pw
    have hx := h x (List.mem_cons_self ..)
    rcases pw_len l (x + 1) b h2 (fun m hm => ⟨by have := h1 m hm; omega, (h m (List.mem_cons_of_mem _ hm)).2⟩) with q | q
    · rw [List.length_cons]; omega
    · subst q; simp; omega
section
variable {p : Int} {l : List Int}
theorem GOk.len (G : GOk p l) : 0 < l.length ∧ l.length ≤ 3600 := by
  have := G.ne
  refine ⟨List.length_pos_iff.mpr G.ne, ?_⟩
  rcases pw_len l 0 p G.pw G.rg with q | q
  · have := G.p2; omega
  · exact absurd q G.ne
theorem GOk.nd (G : GOk p l) : l.Nodup := G.pw.imp fun h e => by omega
/-- the object of a grain -/
structure GrAt (h : Hs) (g d : Nat) (p : Int) (l : List Int) : Prop where
  g : h[g]? = some (.ins 9 [(3, .int p), (4, .tup (wI l)), (0, .ref d)])
  d : h[d]? = some (.dct (kvT l))
def lowF (p : Int) (l : List Int) (i : Int) : Int := i / l.length * p + l.getD (i % l.length).toNat 0
def idxF (p : Int) (l : List Int) (x : Int) : Int := x / p * l.length + (l.filter fun m => decide (m ≤ x % p)).length - 1
def condF (p : Int) (l : List Int) (one : Int) : Bool := decide (p % one = 0) && l.all fun m => l.contains ((m + one) % p)
def formF (p : Int) (l : List Int) : Int × List Int := match (iot 1 p.toNat).find? (condF p l) with
  | some one => (one, l.filter fun m => decide (m < one))
  | none => (p, l)
def grW (x : Int × List Int) : W := .tup [.int x.1, .tup (wI x.2)]
variable {h : Hs} {g d n : Nat}
theorem GrAt.f3 (G : GrAt h g d p l) : fldOf P.T h 3 (.ref g) = .ok (.int p) h := fldOf_ok G.g T_plain9 rfl
theorem GrAt.f4 (G : GrAt h g d p l) : fldOf P.T h 4 (.ref g) = .ok (.tup (wI l)) h := fldOf_ok G.g T_plain9 rfl
theorem GrAt.f0 (G : GrAt h g d p l) : fldOf P.T h 0 (.ref g) = .ok (.ref d) h := fldOf_ok G.g T_plain9 rfl
theorem getD_at {k : Int} (h0 : 0 ≤ k) (h1 : k < l.length) : (wI l)[k.toNat]? = some (.int (l.getD k.toNat 0)) := by
  unfold wI
  rw [List.getElem?_map, List.getD_eq_getElem?_getD, List.getElem?_eq_getElem (by omega)]
  rfl
theorem begins_eq (G : GrAt h g d p l) (O : GOk p l) {x : Int} : callN P (n + 1) 48 [.ref g, .int x] h = .ok (.bl (l.contains (x % p))) h := by
  rw [c_Grain_begins, b_Grain_begins]
  have := O.p1
  simp only [EV, EVS, EVR, G.f3, G.f0, o_mod (show (0 : Int) < p by omega), in_dct G.d, kvT_has, beq_true]
theorem low_of_eq (G : GrAt h g d p l) (O : GOk p l) {i : Int} : callN P (n + 1) 49 [.ref g, .int i] h = .ok (.int (lowF p l i)) h := by
  rw [c_Grain_low_of, b_Grain_low_of]
  have := O.p1
  have := O.p2
  have hl := O.len
  have l0 : (0 : Int) < (wI l).length := by rw [wI_len]; omega
  have m0 := Int.emod_nonneg i (show (l.length : Int) ≠ 0 by omega)
  have m1 := Int.emod_lt_of_pos i (show (0 : Int) < l.length by omega)
  simp only [EV, EVS, EVR, G.f3, G.f4, len_tup, o_fdiv l0 (by rw [wI_len]; omega), o_mod l0, o_mulR (show p.natAbs < 2 ^ 64 by omega)]
  rw [wI_len, idx_tup m0 (getD_at m0 m1)]
  simp only [EVR, o_add]
  rfl
theorem index_of_eq (G : GrAt h g d p l) (O : GOk p l) {x : Int} : callN P (n + 1) 50 [.ref g, .int x] h = .ok (.int (idxF p l x)) h := by
  rw [c_Grain_index_of, b_Grain_index_of]
  have := O.p1
  have := O.p2
  have hl := O.len
  have z : SZ = 16777216 := rfl
  simp only [EV, EVS, EVR, G.f3, G.f4, len_tup, o_fdiv (show 0 < p by omega) (by omega), o_mod (show 0 < p by omega)]
  rw [o_mulR (by rw [wI_len]; omega)]
  simp only [EV, EVS, EVR, G.f4, seq_tup]
  rw [cRun_fm (fun m => decide (m ≤ x % p)) (fun _ => .int 1) (by omega) rfl fun m _ => ?_]
  · simp only [EV, EVS, EVR, lb_len, o_add, o_sub, wI_len, List.length_map]
    rfl
  · simp only [EV, EVS, EVR, cv_le]
theorem check_great_int {x : Int} (h1 : -1000000000000000000 ≤ x) (h2 : x ≤ 1000000000000000000) : callN P (n + 3) 6 [.int x] h = .ok .non h := by
  rw [c_check_great, b_check_great]
  simp only [EV, EVS, EVR, T_g2, g_GREATEST, is_between_int, h1, h2, decide_true, Bool.and_true, Bool.not_true]
theorem check_great_no {w : W} (e : callN P (n + 2) 1 [w, .int (-1000000000000000000), .int 1000000000000000000] h = .ok (.bl false) h) : callN P (n + 3) 6 [w] h = .raise 6 [w] h := by
  rw [c_check_great, b_check_great]
  simp only [EV, EVS, EVR, T_g2, g_GREATEST, e, Bool.not_false, eS_raise T_exf6, List.length_cons, List.length_nil]
theorem block_int (G : GrAt h g d p l) (O : GOk p l) {x : Int} (h1 : -1000000000000000000 ≤ x) (h2 : x ≤ 1000000000000000000) : callN P (n + 4) 51 [.ref g, .int x] h = .ok (.int (idxF p l x)) h := by
  rw [c_Grain_block, b_Grain_block]
  simp only [EV, EVS, EVR, check_great_int h1 h2, methOf_ok G.g T_m50, index_of_eq G O]
theorem block_no {w : W} (e : callN P (n + 2) 1 [w, .int (-1000000000000000000), .int 1000000000000000000] h = .ok (.bl false) h) : callN P (n + 4) 51 [.ref g, w] h = .raise 6 [w] h := by
  rw [c_Grain_block, b_Grain_block]
  simp only [EV, EVS, EVR, check_great_no e]
theorem span_int (G : GrAt h g d p l) (O : GOk p l) {x : Int} (h1 : -1000000000000000 ≤ x) (h2 : x ≤ 1000000000000000) : callN P (n + 3) 52 [.ref g, .int x] h = .ok (.tup [.int (lowF p l x), .int (lowF p l (x + 1))]) h := by
  rw [c_Grain_span, b_Grain_span]
  simp only [EV, EVS, EVR, T_g3, g_MOST_INDEX, is_between_int, h1, h2, decide_true, Bool.and_true, Bool.not_true, methOf_ok G.g T_m49, low_of_eq G O, o_add]
theorem span_no {w : W} (e : callN P (n + 2) 1 [w, .int (-1000000000000000), .int 1000000000000000] h = .ok (.bl false) h) : callN P (n + 3) 52 [.ref g, w] h = .raise 3 [w] h := by
  rw [c_Grain_span, b_Grain_span]
  simp only [EV, EVS, EVR, T_g3, g_MOST_INDEX, e, Bool.not_false, eS_raise T_exf3, List.length_cons, List.length_nil]
theorem form_eq (G : GrAt h g d p l) (O : GOk p l) : callN P (n + 1) 53 [.ref g] h = .ok (grW (formF p l)) h := by
  rw [c_Grain_form, b_Grain_form]
  have := O.p1
  have := O.p2
  have hl := O.len
  have z : SZ = 16777216 := rfl
  simp only [EV, EVS, EVR, G.f3, o_add]
  rw [rng2 (by omega) (by omega) (by omega) (by omega) (by omega), show (p + 1 - 1).toNat = p.toNat by omega]
  simp only [EVR]
  refine fin_find (fun y => [some (.ref g), y, none]) (condF p l) (fun one => grW (one, l.filter fun m => decide (m < one))) (fun y w => rfl) rfl (fun one ho => ?_) (fun one e => ?_) (fun e z => ?_)
  · have ho := iot_mem.mp ho
    simp only [EV, EVS, EVR, G.f3, G.f4, o_mod (show 0 < one by omega), cv_eq, seq_tup]
    rw [cRun_map (fun m => .bl (l.contains ((m + one) % p))) (by omega) rfl fun m _ => ?_]
    · rw [show (l.map fun m => W.bl (l.contains ((m + one) % p))) = (l.map fun m => l.contains ((m + one) % p)).map W.bl by rw [List.map_map]; rfl]
      simp only [EV, EVS, EVR, lb_all, List.all_map, Function.comp_def, id, tst_and]
      unfold condF
      cases (decide (p % one = 0) && l.all fun m => l.contains ((m + one) % p)) with
      | true =>
        simp only [EV, EVS, EVR, G.f4, seq_tup]
        rw [cRun_filter (fun m => decide (m < one)) (by omega) rfl fun m _ => ?_]
        · simp only [EV, EVS, EVR, lb_tuple, if_true]
          rfl
        · simp only [EV, EVS, EVR, cv_lt]
      | false => simp only [EV, EVS, EVR, Bool.false_eq_true, if_false]
    · simp only [EV, EVS, EVR, o_add, G.f3, G.f0, o_mod (show 0 < p by omega), in_dct G.d, kvT_has, beq_true]
  · simp only [EVR]
    unfold formF
    rw [e]
  · simp only [EV, EVS, EVR, G.f3, G.f4]
    unfold formF
    rw [e]
    rfl
end
end K77
end

section
set_option Elab.async false
set_option linter.all false
set_option maxRecDepth 100000
set_option maxHeartbeats 8000000
/-! k76: two grains; the law's own reckoning. -/
namespace K77
open MP
section
variable {p q : Int} {l m : List Int} {h : Hs} {g d g2 d2 n : Nat}
def lcmI (p q : Int) : Int := (Nat.lcm p.toNat q.toNat : Nat)
theorem divisor_int (h1 : 0 ≤ p) (h2 : 0 ≤ q) (hq : q < 100000) : callN P (n + 1) 5 [.int p, .int q] h = .ok (.int (Nat.gcd p.toNat q.toNat : Nat)) h := by
  have e1 : ((p.toNat : Nat) : Int) = p := Int.toNat_of_nonneg h1
  have e2 : ((q.toNat : Nat) : Int) = q := Int.toNat_of_nonneg h2
  have := divisor_eq (n := n) (h := h) (p := p.toNat) (q := q.toNat) (by omega)
  rw [e1, e2] at this
  exact this
theorem common_int (h1 : 0 < p) (h2 : 0 < q) (hq : q < 100000) (hp : p < 100000) : callN P (n + 1) 35 [.int p, .int q] h = .ok (.int (lcmI p q)) h := by
  have e1 : ((p.toNat : Nat) : Int) = p := Int.toNat_of_nonneg (by omega)
  have e2 : ((q.toNat : Nat) : Int) = q := Int.toNat_of_nonneg (by omega)
  have := common_eq (n := n) (h := h) (p := p.toNat) (q := q.toNat) (by omega) (by omega) (by omega) (by omega)
  rw [e1, e2] at this
  exact this
theorem whole_period_eq (G : GrAt h g d p l) (O : GOk p l) (G2 : GrAt h g2 d2 q m) (O2 : GOk q m) : callN P (n + 2) 8 [.ref g, .ref g2] h = .ok (.int (lcmI p q)) h := by
  rw [c_whole_period, b_whole_period]
  have a1 := O.p1
  have a2 := O.p2
  have b1 := O2.p1
  have b2 := O2.p2
  have g0 : 0 < Nat.gcd p.toNat q.toNat := Nat.gcd_pos_of_pos_left _ (by omega)
  have g1 : Nat.gcd p.toNat q.toNat ≤ q.toNat := Nat.gcd_le_right _ (by omega)
  simp only [EV, EVS, EVR, G.f3, G2.f3, o_mulL (show p.natAbs < 2 ^ 64 by omega), divisor_int (show 0 ≤ p by omega) (show 0 ≤ q by omega) (by omega)]
  rw [o_fdiv (by omega) (by omega)]
  simp only [EVR]
  congr 2
  unfold lcmI Nat.lcm
  rw [Int.natCast_ediv, Int.natCast_mul, Int.toNat_of_nonneg (by omega), Int.toNat_of_nonneg (by omega)]
theorem lcm_bd (h1 : 1 ≤ p) (h2 : 1 ≤ q) (h3 : p ≤ 360) (h4 : q ≤ 360) : 1 ≤ lcmI p q ∧ lcmI p q ≤ 129600 := by
  unfold lcmI
  have a := Nat.lcm_pos (show 0 < p.toNat by omega) (show 0 < q.toNat by omega)
  have b : Nat.lcm p.toNat q.toNat ≤ p.toNat * q.toNat := Nat.le_of_dvd (Nat.mul_pos (by omega) (by omega)) (Nat.lcm_dvd_mul ..)
  have c : p.toNat * q.toNat ≤ 360 * 360 := Nat.mul_le_mul (by omega) (by omega)
  omega
def optW : Option Int → W
  | some x => .int x
  | none => .non
theorem check_period_ok {x : Int} (hx : x ≤ 3600) : callN P (n + 1) 9 [.int x] h = .ok .non h := by
  rw [c_check_period, b_check_period]
  have : decide (3600 < x) = false := by simpa using hx
  simp only [EV, EVS, EVR, T_g1, g_MOST_COMMON, cv_gt, this]
theorem check_period_no {x : Int} (hx : 3600 < x) : callN P (n + 1) 9 [.int x] h = .raise 8 [.int x] h := by
  rw [c_check_period, b_check_period]
  have : decide (3600 < x) = true := by simpa using hx
  simp only [EV, EVS, EVR, T_g1, g_MOST_COMMON, cv_gt, this, eS_raise T_exf8, List.length_cons, List.length_nil]
/-! ### the law's reckoning -/
theorem law_span_eq (O : GOk p l) {x : Int} : callN P (n + 1) 33 [grW (p, l), .int x] h = .ok (.ref (h.length + 1)) (h ++ [.lst [.int (lowF p l x), .int (lowF p l (x + 1))]] ++ [.lst [.int x, .int (lowF p l x), .int (lowF p l (x + 1))]]) := by
  rw [c__law_span, b__law_span]
  have a1 := O.p1
  have a2 := O.p2
  have hl := O.len
  have l0 : (0 : Int) < (wI l).length := by rw [wI_len]; omega
  simp only [grW, EV, EVS, EVR, o_add, seq_tup]
  rw [show [W.int x, W.int (x + 1)] = wI [x, x + 1] from rfl, cRun_map (is := [x, x + 1]) (fun k => .int (lowF p l k)) (show 2 ≤ SZ by decide) rfl fun k _ => ?_]
  · simp only [EV, EVS, EVR, EVX, List.map_cons, List.map_nil]
    rw [List.length_append, List.length_singleton, cut_no]
    show W.bels h.length [.ref (h.length + 1)] = false
    simp [W.bels, W.bel]
  · have m0 := Int.emod_nonneg k (show (l.length : Int) ≠ 0 by omega)
    have m1 := Int.emod_lt_of_pos k (show (0 : Int) < l.length by omega)
    simp only [EV, EVS, EVR, len_tup, bi1, o_fdiv l0 (by rw [wI_len]; omega), o_mod l0, o_mulR (show p.natAbs < 2 ^ 64 by omega)]
    rw [wI_len, idx_tup m0 (getD_at m0 m1)]
    simp only [EVR, o_add]
    rfl
end
end K77
end

section
set_option Elab.async false
set_option linter.all false
set_option maxRecDepth 100000
set_option maxHeartbeats 8000000
/-! k76: the law's block of a number, its form. -/
namespace K77
open MP
theorem filt_iot (r : Int) : ∀ (l : List Int) (s : Int), l.Pairwise (· < ·) → (iot s l.length).filter (fun k => decide (l.getD (k - s).toNat 0 ≤ r)) = iot s (l.filter fun m => decide (m ≤ r)).length
  | [], s, _ => rfl
  | a :: t, s, pw => by
    obtain ⟨h1, h2⟩ := List.pairwise_cons.mp pw
    rw [List.length_cons, iot, List.filter_cons]
    have e0 : (a :: t).getD (s - s).toNat 0 = a := by rw [Int.sub_self]; rfl
    rw [e0]
    have tail : (iot (s + 1) t.length).filter (fun k => decide ((a :: t).getD (k - s).toNat 0 ≤ r)) = (iot (s + 1) t.length).filter (fun k => decide (t.getD (k - (s + 1)).toNat 0 ≤ r)) := by
      refine List.filter_congr fun k hk => ?_
      have hk := iot_mem.mp hk
      have : (k - s).toNat = (k - (s + 1)).toNat + 1 := by omega
      rw [this]
      rfl
    rw [tail, filt_iot r t (s + 1) h2, List.filter_cons]
    by_cases ha : a ≤ r
    · simp only [ha, decide_true, if_true, List.length_cons, iot]
    · have e1 : t.filter (fun m => decide (m ≤ r)) = [] := by
        rw [List.filter_eq_nil_iff]
        intro b hb
        have := h1 b hb
        simp only [decide_eq_true_eq]
        omega
      simp only [ha, decide_false, Bool.false_eq_true, if_false, e1, List.length_nil, iot]
theorem atI_last {α : Type} {l : List α} {y : α} : L2.atI (l ++ [y]) (-1) = some y := by
  unfold L2.atI L2.ixN
  rw [if_neg (by decide), if_pos (by simp; omega)]
  show (l ++ [y])[((-1 : Int) + ((l ++ [y]).length : Nat)).toNat]? = _
  rw [List.length_append, List.length_singleton, show ((-1 : Int) + ((l.length + 1 : Nat) : Int)).toNat = l.length by omega]
  rw [List.getElem?_append_right (Nat.le_refl _), Nat.sub_self]; rfl
section
variable {p q : Int} {l m : List Int} {h : Hs} {n : Nat}
theorem idx_last {r : Nat} {ws : List W} {y : W} (e : h[r]? = some (.lst (ws ++ [y]))) : idx2 h (.ref r) (.int (-1)) = .ok y h := by
  unfold idx2
  simp only [e]
  rw [atI_last]; rfl
theorem law_at_eq (O : GOk p l) {x : Int} : ∃ b : List Int, callN P (n + 2) 32 [grW (p, l), .int x] h = .ok (.ref (h.length + 2)) (h ++ [.lst (wI b)] ++ [.lst [.int (lowF p l (idxF p l x)), .int (lowF p l (idxF p l x + 1))]] ++ [.lst [.int (idxF p l x), .int (lowF p l (idxF p l x)), .int (lowF p l (idxF p l x + 1))]]) := by
  refine ⟨iot 0 (l.filter fun m => decide (m ≤ x % p)).length, ?_⟩
  rw [c__law_at, b__law_at]
  have a1 := O.p1
  have a2 := O.p2
  have hl := O.len
  have z : SZ = 16777216 := rfl
  simp only [grW, EV, EVS, EVR, EVX, o_fdiv (show 0 < p by omega) (by omega), o_mod (show 0 < p by omega), wI_len]
  rw [rng1 (by omega) (by omega), show ((l.length : Nat) : Int).toNat = l.length by omega]
  simp only [EVR]
  rw [cRun_filter (fun k => decide (l.getD k.toNat 0 ≤ x % p)) (by rw [iot_len]; omega) rfl fun k hk => ?_]
  · have e0 := filt_iot (x % p) l 0 O.pw
    simp only [Int.sub_zero] at e0
    rw [e0]
    simp only [EV, EVS, EVR, EVX, eqS_nil gOkN, wI_len]
    generalize hc : (l.filter fun m => decide (m ≤ x % p)).length = c
    have call_ : ∀ y : Int, idxF p l x = x / p * l.length + y → callN P (n + 1) 33 [W.tup [.int p, .tup (wI l)], .int (x / p * ↑l.length + y)] (h ++ [.lst (wI (iot 0 c))]) = .ok (.ref (h.length + 2)) (h ++ [.lst (wI (iot 0 c))] ++ [.lst [.int (lowF p l (idxF p l x)), .int (lowF p l (idxF p l x + 1))]] ++ [.lst [.int (idxF p l x), .int (lowF p l (idxF p l x)), .int (lowF p l (idxF p l x + 1))]]) := fun y ey => by
      have := law_span_eq O (x := x / p * ↑l.length + y) (n := n) (h := h ++ [.lst (wI (iot 0 c))])
      unfold grW at this
      dsimp only at this
      rw [this, ← ey, List.length_append, List.length_singleton]
    have cut_ : ∀ h' : Hs, cutH h.length [.ref (h.length + 2)] h' = h' := fun h' => cut_no (by simp [W.bels, W.bel])
    cases c with
    | zero =>
      rw [show (decide (iot 0 0 = []) == false) = false from rfl]
      simp only [EV, EVS, EVR, EVX, o_mulR (show ((l.length : Nat) : Int).natAbs < 2 ^ 64 by omega), wI_len]
      rw [call_ (-1) (by unfold idxF; rw [hc]; omega)]
      simp only [EVR, cut_]
    | succ c =>
      rw [show (decide (iot 0 (c + 1) = []) == false) = true from rfl]
      have e2 : (h ++ [Cell.lst (wI (iot 0 (c + 1)))])[h.length]? = some (.lst (wI (iot 0 c) ++ [.int c])) := by
        rw [app_new, iot_snoc, ← wI_app]
        simp [wI]
      simp only [EV, EVS, EVR, EVX, idx_last e2, o_mulR (show ((l.length : Nat) : Int).natAbs < 2 ^ 64 by omega), wI_len]
      rw [call_ c (by unfold idxF; rw [hc]; omega)]
      simp only [EVR, cut_]
  · have hk := iot_mem.mp hk
    simp only [EV, EVS, EVR, idx_tup hk.1 (getD_at (l := l) hk.1 (by omega)), cv_le]
/-! ### the form -/
def lcB (p : Int) (l : List Int) (one : Int) : Bool := decide ((iot 0 p.toNat).filter (fun x => !decide (l.contains (x % one) = l.contains x)) = [])
def lformF (p : Int) (l : List Int) : Int × List Int := match ((iot 1 p.toNat).filter fun one => decide (p % one = 0)).find? (lcB p l) with
  | some one => (one, l.filter fun m => decide (m < one))
  | none => (p, l)
theorem find_filter {α : Type} {a b : α → Bool} : ∀ {l : List α}, (l.filter a).find? b = l.find? fun x => a x && b x
  | [] => rfl
  | x :: l => by
    rw [List.filter_cons, List.find?_cons]
    cases ha : a x with
    | true => rw [if_pos rfl, List.find?_cons, find_filter, Bool.true_and]
    | false => rw [if_neg Bool.false_ne_true, find_filter, Bool.false_and]
theorem find_congr {α : Type} {a b : α → Bool} : ∀ {l : List α}, (∀ x ∈ l, a x = b x) → l.find? a = l.find? b
  | [], _ => rfl
  | x :: l, h => by rw [List.find?_cons, List.find?_cons, h x (List.mem_cons_self ..), find_congr fun y hy => h y (List.mem_cons_of_mem _ hy)]
theorem cond_iff (O : GOk p l) {one : Int} (h1 : 1 ≤ one) (hd : p % one = 0) : (l.all fun m => l.contains ((m + one) % p)) = lcB p l one := by
  have a1 := O.p1
  have hdv : one ∣ p := Int.dvd_of_emod_eq_zero hd
  obtain ⟨k, hk⟩ := hdv
  have kpos : 0 < k := by
    rcases Int.lt_or_le 0 k with z | z
    · exact z
    · have := Int.mul_le_mul_of_nonneg_left z (show 0 ≤ one by omega)
      omega
  have cb : ∀ x : Int, l.contains x = true ↔ x ∈ l := fun x => by simp
  rw [Bool.eq_iff_iff]
  unfold lcB
  simp only [List.all_eq_true, decide_eq_true_eq, List.filter_eq_nil_iff, Bool.not_eq_true', decide_eq_false_iff_not, Classical.not_not, cb]
  constructor
  · intro A x hx
    have hx := iot_mem.mp hx
    have up : ∀ (c : Nat) (m : Int), m ∈ l → (m + c * one) % p ∈ l := by
      intro c
      induction c with
      | zero =>
        intro m hm
        have := O.rg m hm
        rw [show m + ((0 : Nat) : Int) * one = m by simp, Int.emod_eq_of_lt this.1 this.2]
        exact hm
      | succ c ih =>
        intro m hm
        have := A _ (ih m hm)
        rw [Int.emod_add_emod] at this
        rw [show m + ((c + 1 : Nat) : Int) * one = m + c * one + one by rw [Int.natCast_add, Int.add_mul]; simp; omega]
        exact this
    have r0 := Int.emod_nonneg x (show one ≠ 0 by omega)
    have r1 := Int.emod_lt_of_pos x (show 0 < one by omega)
    have ex := Int.emod_add_mul_ediv x one
    have q0 := Int.ediv_nonneg hx.1 (show 0 ≤ one by omega)
    have hone : one ≤ p := by
      rw [hk]
      have := Int.mul_le_mul_of_nonneg_left (show (1 : Int) ≤ k by omega) (show 0 ≤ one by omega)
      omega
    have q1 : x / one ≤ k := by
      have : x < one * k := by omega
      have := Int.ediv_lt_of_lt_mul (show 0 < one by omega) (show x < k * one by rw [Int.mul_comm]; exact this)
      omega
    rw [Bool.eq_iff_iff, cb, cb]
    constructor
    · intro hr
      have := up (x / one).toNat _ hr
      rw [Int.toNat_of_nonneg q0, show x % one + x / one * one = x by rw [Int.mul_comm]; exact ex, Int.emod_eq_of_lt hx.1 (by omega)] at this
      exact this
    · intro hxl
      have := up (k - x / one).toNat _ hxl
      rw [Int.toNat_of_nonneg (by omega)] at this
      have e2 : x + (k - x / one) * one = x % one + p := by
        have : (k - x / one) * one = k * one - x / one * one := Int.sub_mul ..
        rw [this, hk, Int.mul_comm k one, Int.mul_comm (x / one) one]
        omega
      rw [e2, Int.add_emod_right, Int.emod_eq_of_lt r0 (by omega)] at this
      exact this
  · intro B m hm
    have hr := O.rg m hm
    have b1 := B m (iot_mem.mpr ⟨hr.1, by omega⟩)
    have e1 := Int.emod_nonneg (m + one) (show p ≠ 0 by omega)
    have e2 := Int.emod_lt_of_pos (m + one) (show 0 < p by omega)
    have b2 := B ((m + one) % p) (iot_mem.mpr ⟨e1, by omega⟩)
    have e3 : (m + one) % p % one = m % one := by
      rw [Int.emod_emod_of_dvd _ ⟨k, hk⟩, Int.add_emod_right]
    rw [e3] at b2
    rw [← cb, ← b2, b1, cb]
    exact hm
theorem form_same (O : GOk p l) : lformF p l = formF p l := by
  unfold lformF formF
  have := find_congr (l := iot 1 p.toNat) (a := fun one => decide (p % one = 0) && lcB p l one) (b := condF p l) fun one ho => by
    have ho := iot_mem.mp ho
    unfold condF
    by_cases hd : p % one = 0
    · rw [cond_iff O ho.1 hd]
    · simp [hd]
  rw [find_filter, this]
  all_goals (cases List.find? (condF p l) (iot 1 p.toNat) <;> rfl)
theorem law_form_eq (O : GOk p l) (w : Wf h) : callN P (n + 1) 34 [grW (p, l)] h = .ok (grW (formF p l)) h := by
  rw [← form_same O, c__law_form, b__law_form]
  have a1 := O.p1
  have a2 := O.p2
  have hl := O.len
  have z : SZ = 16777216 := rfl
  simp only [grW, EV, EVS, EVR, EVX]
  rw [cRun_map (fun i => .tup [.int i, .bl true]) (by omega) rfl fun m _ => ?_]
  · simp only [EV, EVS, EVR, EVX, lb_kvT O.nd]
    rw [rng2 (by omega) (by omega) (by omega) (by omega) (by omega), show (p + 1 - 1).toNat = p.toNat by omega]
    simp only [EVR]
    rw [cRun_filter (fun one => decide (p % one = 0)) (by rw [iot_len]; omega) rfl fun one ho => ?_]
    · simp only [EVR]
      have cutG : ∀ x : Int × List Int, cutH h.length [grW x] (h ++ [.dct (kvT l)]) = h := fun x => cut_app w (by simp [grW, W.bels, W.bel, wI_bel])
      refine fin_find (fun y => [some (.tup [.int p, .tup (wI l)]), some (.int p), some (.tup (wI l)), some (.ref h.length), none, y]) (lcB p l) (fun one => grW (one, l.filter fun m => decide (m < one))) (fun y w => rfl) rfl (fun one ho => ?_) (fun one e => ?_) (fun e z => ?_)
      · have ho := iot_mem.mp (List.mem_filter.mp ho).1
        simp only [EV, EVS, EVR, EVX]
        rw [rng1 (by omega) (by omega)]
        simp only [EVR]
        rw [cRun_filter (fun x => !decide (l.contains (x % one) = l.contains x)) (by rw [iot_len]; omega) rfl fun x hx => ?_]
        · simp only [EV, EVS, EVR]
          rw [eqS_nil (g := none) rfl]
          simp only [EVR, beq_true]
          show _ = if decide ((iot 0 p.toNat).filter (fun x => !decide (l.contains (x % one) = l.contains x)) = []) = true then _ else _
          cases decide ((iot 0 p.toNat).filter (fun x => !decide (l.contains (x % one) = l.contains x)) = []) with
          | true =>
            simp only [EV, EVS, EVR, EVX]
            rw [cRun_filter (fun m => decide (m < one)) (by omega) rfl fun m _ => ?_]
            · simp only [EV, EVS, EVR, lb_tuple, if_true]
              rfl
            · simp only [EV, EVS, EVR, cv_lt]
          | false => simp only [EV, EVS, EVR, Bool.false_eq_true, if_false]
        · simp only [EV, EVS, EVR, EVX, o_mod (show 0 < one by omega), in_dct app_new, kvT_has, beq_true]
      · simp only [EVR, cutG]
        unfold lformF
        rw [e]
        rfl
      · have := cutG (p, l)
        unfold grW at this
        simp only [EV, EVS, EVR, this]
        unfold lformF
        rw [e]
    · have ho := iot_mem.mp ho
      simp only [EV, EVS, EVR, EVX, o_mod (show 0 < one by omega)]
  · simp only [EV, EVS, EVR]
end
end K77
end

section
set_option Elab.async false
set_option linter.all false
set_option maxRecDepth 100000
set_option maxHeartbeats 8000000
/-! k76: grains made. -/
namespace K77
open MP
theorem set_new {h : Hs} {c d : Cell} : (h ++ [c]).set h.length d = h ++ [d] := by
  rw [List.set_append_right _ _ (Nat.le_refl _), Nat.sub_self]; rfl
theorem set_new2 {h : Hs} {c d e : Cell} : (h ++ [c] ++ [e]).set h.length d = h ++ [d] ++ [e] := by
  rw [List.append_assoc, List.set_append_right _ _ (Nat.le_refl _), Nat.sub_self, List.append_assoc]; rfl
theorem app_new2 {h : Hs} {c d : Cell} : (h ++ [c] ++ [d])[h.length]? = some c := app_at app_new
theorem putFs_nil {T : Tab} {env : Env} {h : Hs} : putFs T env [] [] [] h = some h := rfl
theorem putFs_cons {T : Tab} {env : Env} {h : Hs} {i f : Nat} {is fs : List Nat} {w : W} {ws : List W} {a c : Nat} {gs : List (Nat × W)} (e1 : vAt env i = some (.ref a)) (e2 : h[a]? = some (.ins c gs)) (e3 : gs.length < 900) (e4 : T.plain c = true) : putFs T env (i :: is) (f :: fs) (w :: ws) h = putFs T env is fs ws (h.set a (.ins c (fPut f w gs))) := by
  unfold vAt at e1
  have : env[i]? = some (some (.ref a)) := by
    cases e : env[i]? with
    | none => rw [e] at e1; cases e1
    | some x => rw [e] at e1; cases x <;> cases e1; rfl
  rw [putFs]
  simp only [this, e2, e3, e4, and_self, if_true]
theorem ris_ok {l : List Int} (pw : l.Pairwise (· < ·)) : risB l = true := by
  unfold risB
  refine List.all_eq_true.mpr fun i hi => ?_
  have hi := iot_mem.mp hi
  have := List.pairwise_iff_getElem.mp pw i.toNat (i + 1).toNat (by omega) (by omega) (by omega)
  rw [List.getD_eq_getElem?_getD, List.getD_eq_getElem?_getD, List.getElem?_eq_getElem (by omega), List.getElem?_eq_getElem (by omega)]
  simpa using this
theorem T_exf9 : P.T.exf 9 = none := rfl
theorem T_init9 : P.T.init 9 = some 46 := rfl
theorem mk_eq {cal : Nat → List W → Hs → R W} {ws : List W} {h : Hs} : mkN P.T cal 9 ws h = (cal 46 (.ref h.length :: ws) (h ++ [.ins 9 []])).bind fun v h1 => match v with
      | .non => .ok (.ref h.length) h1
      | _ => .stuck := by
  unfold mkN
  rw [T_exf9]
  dsimp only
  rw [T_plain9, if_pos rfl, T_init9]
  all_goals rfl
section
variable {p q : Int} {l m : List Int} {h : Hs} {g d g2 d2 n : Nat}
theorem GOk.all0 (O : GOk p l) : (l.all fun i => decide (0 ≤ i) && decide (i ≤ p - 1)) = true := by
  refine List.all_eq_true.mpr fun i hi => ?_
  have := O.rg i hi
  simp; omega
theorem init_ok (O : GOk p l) (h3 : p ≤ 360) : callN P (n + 5) 46 [.ref h.length, .int p, .tup (wI l)] (h ++ [.ins 9 []]) = .ok .non (h ++ [.ins 9 [(3, .int p), (4, .tup (wI l)), (0, .ref (h.length + 1))]] ++ [.dct (kvT l)]) := by
  rw [c_Grain___init__, b_Grain___init__]
  have a1 := O.p1
  have hl := O.len
  have z : SZ = 16777216 := rfl
  have ne : decide (l = []) = false := by simpa using O.ne
  simp only [EV, EVS, EVR, EVX, T_g0, g_MOST_PERIOD, is_between_int, a1, h3, decide_true, Bool.and_true, Bool.not_true, is_rising_row_wI (show l.length ≤ SZ by omega), O.all0, ris_ok O.pw, cv_eqT0, ne]
  rw [putFs_cons (c := 9) (gs := []) rfl app_new (by decide) T_plain9, set_new, putFs_cons (c := 9) (gs := fPut 3 (.int p) []) rfl app_new (by simp [fPut]) T_plain9, set_new, putFs_nil]
  simp only [EV, EVS, EVR, EVX]
  rw [dRun_kvT (by omega) rfl O.nd fun i hi => ?_]
  · simp only [EV, EVS, EVR]
    rw [fldPut_ok (c := 9) (fs := fPut 4 (.tup (wI l)) (fPut 3 (.int p) [])) app_new2 T_plain9 (by simp [fPut]), set_new2]
    simp only [EV, EVS, EVR, List.length_append, List.length_singleton]
    rw [cut_no2 (i := h.length) (by omega) app_new2 (by simp [fPut, Cell.bel, W.bel])]
    rfl
  · simp only [EV, EVS, EVR]
theorem mk_ok (O : GOk p l) (h3 : p ≤ 360) : mkN P.T (callN P (n + 5)) 9 [.int p, .tup (wI l)] h = .ok (.ref h.length) (h ++ [.ins 9 [(3, .int p), (4, .tup (wI l)), (0, .ref (h.length + 1))]] ++ [.dct (kvT l)]) := by
  rw [mk_eq, init_ok O h3]
  rfl
theorem made_of_ok (O : GOk p l) : callN P (n + 6) 7 [.int p, .tup (wI l)] h = .ok (.ref h.length) (h ++ [.ins 9 [(3, .int p), (4, .tup (wI l)), (0, .ref (h.length + 2))]] ++ [.dct (kvT [0])] ++ [.dct (kvT l)]) := by
  have O1 : GOk 1 [0] := ⟨by decide, by decide, by decide, by simp, fun m hm => by simp at hm; omega⟩
  have hl := O.len
  have z : SZ = 16777216 := rfl
  have mk := mk_ok (n := n) (h := h) O1 (by decide)
  have e0 : ∀ {a b : Cell}, (h ++ [a] ++ [b])[h.length]? = some a := app_new2
  have st : ∀ {a b c d : Cell}, (h ++ [a] ++ [b] ++ [d]).set h.length c = h ++ [c] ++ [b] ++ [d] := fun {a b c d} => by
    rw [List.append_assoc, List.append_assoc, List.set_append_right _ _ (Nat.le_refl _), Nat.sub_self, List.append_assoc, List.append_assoc]; rfl
  rw [c_made_of, b_made_of]
  rw [show wI [0] = [.int 0] from rfl] at mk
  simp only [EV, EVS, EVR, EVX, mk]
  rw [putFs_cons (c := 9) rfl e0 (by simp [fPut]) T_plain9, set_new2, putFs_cons (c := 9) rfl e0 (by simp [fPut]) T_plain9, set_new2, putFs_nil]
  simp only [EV, EVS, EVR, EVX]
  rw [dRun_kvT (by omega) rfl O.nd fun i hi => ?_]
  · simp only [EV, EVS, EVR]
    rw [fldPut_ok (c := 9) (app_at e0) T_plain9 (by simp [fPut]), st]
    simp only [EV, EVS, EVR, List.length_append, List.length_singleton]
    rw [cut_no (by simp [W.bels, W.bel])]
    rfl
  · simp only [EV, EVS, EVR]
end
end K77
end

section
set_option Elab.async false
set_option linter.all false
set_option maxRecDepth 100000
set_option maxHeartbeats 8000000
/-! k76: two grains' common parts and wholes, the same blocks; the law makes one. -/
namespace K77
open MP
/-- a grain's object, apart from the box -/
def Gr (r : Nat) (h : Hs) (w : W) (p : Int) (l : List Int) : Prop := GOk p l ∧ ∃ g d, w = .ref g ∧ g ≠ r ∧ d ≠ r ∧ GrAt h g d p l
theorem Gr.up {r : Nat} {h h' : Hs} {w : W} {p : Int} {l : List Int} (G : Gr r h w p l) (u : Up r h h') : Gr r h' w p l := by
  obtain ⟨O, g, d, e, n1, n2, G⟩ := G
  exact ⟨O, g, d, e, n1, n2, u.at G.g n1, u.at G.d n2⟩
theorem GrAt.ext {h h' : Hs} {g d : Nat} {p : Int} {l : List Int} (G : GrAt h g d p l) (u : ∀ (i : Nat) (c : Cell), h[i]? = some c → h'[i]? = some c) : GrAt h' g d p l := ⟨u _ _ G.g, u _ _ G.d⟩
section
variable {p q : Int} {l m : List Int} {h : Hs} {g d g2 d2 n r : Nat}
theorem lcm_dvd (h1 : 1 ≤ p) (h2 : 1 ≤ q) : p ∣ lcmI p q ∧ q ∣ lcmI p q := by
  unfold lcmI
  have a := Nat.dvd_lcm_left p.toNat q.toNat
  have b := Nat.dvd_lcm_right p.toNat q.toNat
  have a' := Int.ofNat_dvd.mpr a
  have b' := Int.ofNat_dvd.mpr b
  rw [Int.toNat_of_nonneg (by omega)] at a' b'
  exact ⟨a', b'⟩
theorem iot_filter_ok {N : Int} {f : Int → Bool} (h1 : 1 ≤ N) (h2 : N ≤ 3600) (ne : (iot 0 N.toNat).filter f ≠ []) : GOk N ((iot 0 N.toNat).filter f) :=
  ⟨h1, h2, ne, (iot_pw _ _).filter _, fun x hx => by
    have := iot_mem.mp (List.mem_filter.mp hx).1
    omega⟩
def GINS (a : Nat) (p : Int) (l : List Int) : Cell := .ins 9 [(3, .int p), (4, .tup (wI l)), (0, .ref a)]
/-! ### == -/
theorem ty_ins {c : Nat} {fs : List (Nat × W)} {t : Ty} (e : h[g]? = some (.ins c fs)) (p : P.T.plain c = true) : isTy h P.T t (.ref g) = some (match t with | .cls d => P.T.sub c d | _ => false) := by
  cases t <;> simp only [isTy, e, p, if_true]
theorem T_sub99 : P.T.sub 9 9 = true := rfl
/-! ### the law makes one -/
end
end K77
end

section
set_option Elab.async false
set_option linter.all false
set_option maxRecDepth 100000
set_option maxHeartbeats 8000000
/-! k76: what the law asks and is told. -/
namespace K77
open MP
def sTold : W := .str (PySem.Str.ofString "told")
section
variable {p q : Int} {l m : List Int} {h : Hs} {g d g2 d2 n r : Nat} {b : Bool}
theorem pm1 {a : W} : permI [0] [a] = some [a] := rfl
theorem pm2 {a c : W} : permI [1, 0] [a, c] = some [c, a] := rfl
theorem cut_ref {h1 h2 : Hs} (e : h.length ≤ h1.length) : cutH h.length [.ref h1.length] h2 = h2 := cut_no (by simp [W.bels, W.bel]; exact e)
theorem cut_refn {k : Nat} {h2 : Hs} : cutH h.length [.ref (h.length + k)] h2 = h2 := cut_no (by simp [W.bels, W.bel])
theorem cut_ref0 {h2 : Hs} : cutH h.length [.ref h.length] h2 = h2 := cut_no (by simp [W.bels, W.bel])
/-! ### refusals -/
theorem cut_one {ws : List W} {c : Cell} : cutH (h.length + 1) ws (h ++ [c]) = h ++ [c] := by
  have := cut_self (ws := ws) (h := h ++ [c])
  rw [List.length_append, List.length_singleton] at this
  exact this
end
end K77
end

section
set_option Elab.async false
set_option linter.all false
set_option maxRecDepth 100000
set_option maxHeartbeats 8000000
/-! k76: the blocks of a grain are right. -/
namespace K77
open MP
section
variable {p q : Int} {l m : List Int} {h : Hs} {g d g2 d2 n r : Nat} {b : Bool} {N : Int}
theorem same5 {a c : W} {v : DV} (w : Wf h) (e1 : drf 5 h a = some v) (e2 : drf 5 h c = some v) : callN P (n + 11) 26 [a, c] h = .ok (.bl true) h := by
  have := same_ok (P := P) (f := 26) (fun n a b h => c__law_same) 5 n h a c v w e1 e2
  rw [show 2 * 5 + n + 1 = n + 11 by omega] at this
  exact this
theorem take76 {many : Int} (s : HSt r h N) (hn : N ≤ 1000000) (h1 : 1 ≤ many) (h2 : many < 1073741824) :
    ∃ (x : Int) (h' : Hs), callN P (n + 1) 25 [.ref r, .int many] h = .ok (.int x) h' ∧ 0 ≤ x ∧ x < many ∧ HSt r h' (N + 1) ∧ Up r h h' ∧ h'.length = h.length := take_ok (P := P) (f := 25) (fun n a b h => c__law_take) s hn h1 h2
theorem idx_first (O : GOk p l) : idx2 h (.tup (wI l)) (.int 0) = .ok (.int (l.getD 0 0)) h := by
  have := O.len
  exact idx_tup (Int.le_refl 0) (getD_at (l := l) (k := 0) (Int.le_refl 0) (by omega))
theorem pw18 : op2 h .pow (.int 10) (.int 18) = .ok (.int 1000000000000000000) h := o_pow (by decide) (by decide) (by decide)
theorem pw15 : op2 h .pow (.int 10) (.int 15) = .ok (.int 1000000000000000) h := o_pow (by decide) (by decide) (by decide)
theorem pw9 : op2 h .pow (.int 10) (.int 9) = .ok (.int 1000000000) h := o_pow (by decide) (by decide) (by decide)
theorem pw8 : op2 h .pow (.int 10) (.int 8) = .ok (.int 100000000) h := o_pow (by decide) (by decide) (by decide)
theorem lockN {h : Hs} {ws : List W} : lockV (h ++ [.lst ws]) (some (.ref h.length)) = none := lockV_lst app_new
theorem bi_abs {T : Tab} {i : Int} : bi1 h T .abs [.int i] = .ok (.int (if i < 0 then -i else i)) h := rfl
theorem law_at2 (O : GOk p l) {x : Int} : ∃ (a : Nat) (l' : Hs), callN P (n + 2) 32 [grW (p, l), .int x] h = .ok (.ref a) (h ++ l') ∧ l'.all (·.bel (h.length + l'.length)) = true ∧ (h ++ l')[a]? = some (.lst [.int (idxF p l x), .int (lowF p l (idxF p l x)), .int (lowF p l (idxF p l x + 1))]) := by
  obtain ⟨b, e⟩ := law_at_eq (n := n) (h := h) O (x := x)
  refine ⟨h.length + 2, [.lst (wI b), .lst [.int (lowF p l (idxF p l x)), .int (lowF p l (idxF p l x + 1))], .lst [.int (idxF p l x), .int (lowF p l (idxF p l x)), .int (lowF p l (idxF p l x + 1))]], ?_, ?_, ?_⟩
  · rw [e]
    simp only [List.append_assoc, List.cons_append, List.nil_append]
  · simp [Cell.bel, W.bels, W.bel, wI_bel]
  · rw [app_k]; rfl
theorem law_span2 (O : GOk p l) {x : Int} : ∃ (a : Nat) (l' : Hs), callN P (n + 1) 33 [grW (p, l), .int x] h = .ok (.ref a) (h ++ l') ∧ l'.all (·.bel (h.length + l'.length)) = true ∧ (h ++ l')[a]? = some (.lst [.int x, .int (lowF p l x), .int (lowF p l (x + 1))]) := by
  refine ⟨h.length + 1, [.lst [.int (lowF p l x), .int (lowF p l (x + 1))], .lst [.int x, .int (lowF p l x), .int (lowF p l (x + 1))]], ?_, ?_, ?_⟩
  · rw [law_span_eq O]
    simp only [List.append_assoc, List.cons_append, List.nil_append]
  · simp [Cell.bel, W.bels, W.bel, wI_bel]
  · rw [app_k]; rfl
theorem d_told {n : Nat} {h : Hs} : drf (n + 1) h sTold = some (.str (PySem.Str.ofString "told")) := by
  unfold sTold
  rw [drf, if_pos (by decide +kernel)]
theorem sz2 {w : W} {h : Hs} : szOk 2 w h = .ok w h := szOk_t (by decide)
theorem rep2 {x : W} {h : Hs} : repR ⟨[x], none, true⟩ (.int 2) h = .ok [x, x] h := rfl
theorem rows_same {h3 : Hs} {a b : W} {v : DV} (w : Wf h3) (ea : drf 3 h3 a = some v) (eb : drf 3 h3 b = some v) (ba : a.bel h3.length = true) (bb : b.bel h3.length = true) :
    callN P (n + 19) 26 [.ref (h3.length + 2), .ref (h3.length + 4)] (h3 ++ [.lst [sTold, a], .lst [sTold, a], .lst [.ref h3.length, .ref (h3.length + 1)], .lst [sTold, b], .lst [.ref (h3.length + 3), .ref (h3.length + 3)]]) = .ok (.bl true) (h3 ++ [.lst [sTold, a], .lst [sTold, a], .lst [.ref h3.length, .ref (h3.length + 1)], .lst [sTold, b], .lst [.ref (h3.length + 3), .ref (h3.length + 3)]]) := by
  have bm : ∀ {x : W} (k : Nat), x.bel h3.length = true → x.bel (h3.length + k) = true := fun k e => (bel_mono (Nat.le_add_right _ _)).1 _ e
  refine same5 (n := n + 8) (v := .lst [.lst [.str (PySem.Str.ofString "told"), v], .lst [.str (PySem.Str.ofString "told"), v]]) (w.apps ?_) ?_ ?_
  · simp [Cell.bel, W.bels, W.bel, sTold, bm 5 ba, bm 5 bb]
  · exact d_lst (app_k.trans rfl) (m_cons (d_lst (app_0.trans rfl) (m_cons d_told (m_cons (drf_app ea) m_nil)) (by simp)) (m_cons (d_lst (app_k.trans rfl) (m_cons d_told (m_cons (drf_app ea) m_nil)) (by simp)) m_nil)) (by simp)
  · exact d_lst (app_k.trans rfl) (m_cons (d_lst (app_k.trans rfl) (m_cons d_told (m_cons (drf_app eb) m_nil)) (by simp)) (m_cons (d_lst (app_k.trans rfl) (m_cons d_told (m_cons (drf_app eb) m_nil)) (by simp)) m_nil)) (by simp)
theorem one_same {h3 : Hs} {a b : W} {v : DV} (w : Wf h3) (ea : drf 3 h3 a = some v) (eb : drf 3 h3 b = some v) (ba : a.bel h3.length = true) (bb : b.bel h3.length = true) :
    callN P (n + 19) 26 [.ref h3.length, .ref (h3.length + 1)] (h3 ++ [.lst [sTold, a], .lst [sTold, b]]) = .ok (.bl true) (h3 ++ [.lst [sTold, a], .lst [sTold, b]]) := by
  have bm : ∀ {x : W} (k : Nat), x.bel h3.length = true → x.bel (h3.length + k) = true := fun k e => (bel_mono (Nat.le_add_right _ _)).1 _ e
  refine same5 (n := n + 8) (v := .lst [.str (PySem.Str.ofString "told"), v]) (w.apps ?_) ?_ ?_
  · simp [Cell.bel, W.bels, W.bel, sTold, bm 2 ba, bm 2 bb]
  · exact d_lst (app_0.trans rfl) (m_cons d_told (m_cons (drf_up _ (drf_app ea)) m_nil)) (by simp)
  · exact d_lst (app_k.trans rfl) (m_cons d_told (m_cons (drf_up _ (drf_app eb)) m_nil)) (by simp)
end
end K77
end

section
set_option Elab.async false
set_option linter.all false
set_option maxRecDepth 100000
set_option maxHeartbeats 8000000
/-! k76: two grains, in plain lists. -/
namespace K77
open MP
theorem sorted_ext {a b : List Int} (ha : a.Pairwise (· < ·)) (hb : b.Pairwise (· < ·)) (hm : ∀ x, x ∈ a ↔ x ∈ b) : a = b :=
  (sortU_eq ha fun k => hm k).trans (sortU_eq hb fun _ => Iff.rfl).symm
section
variable {p q : Int} {l m : List Int}
theorem cont_iff {x : Int} {l : List Int} : l.contains x = true ↔ x ∈ l := by simp
theorem iot_app : ∀ (a b : Nat) (s : Int), iot s (a + b) = iot s a ++ iot (s + a) b
  | 0, b, s => by simp [iot]
  | a + 1, b, s => by
    rw [show a + 1 + b = a + b + 1 by omega, iot, iot, iot_app a b (s + 1), List.cons_append]
    congr 3
    omega
end
end K77
end

section
set_option Elab.async false
set_option linter.all false
set_option maxRecDepth 100000
set_option maxHeartbeats 8000000
/-! k76: a pair of grains is right. -/
namespace K77
open MP
section
variable {p q : Int} {l m : List Int} {h : Hs} {g d g2 d2 n r : Nat} {b : Bool} {N : Int}
theorem idx_gr0 {x : Int × List Int} : idx2 h (grW x) (.int 0) = .ok (.int x.1) h := rfl
theorem idx_gr1 {x : Int × List Int} : idx2 h (grW x) (.int 1) = .ok (.tup (wI x.2)) h := rfl
theorem five_same {h3 : Hs} {ws : List W} {ds : List DV} (w : Wf h3) (e : ws.mapM (drf 4 h3) = some ds) (z : ws.length ≤ 1000000) (b : W.bels h3.length ws = true) :
    callN P (n + 29) 26 [.ref h3.length, .ref (h3.length + 1)] (h3 ++ [.lst ws, .lst ws]) = .ok (.bl true) (h3 ++ [.lst ws, .lst ws]) := by
  have bm : W.bels (h3.length + 2) ws = true := (bel_mono (Nat.le_add_right _ _)).2 _ b
  have e' : ws.mapM (drf 4 (h3 ++ [.lst ws, .lst ws])) = some ds := mapM_le (fun x _ d e => drf_app e) e
  refine same5 (n := n + 18) (v := .lst ds) (w.apps ?_) ?_ ?_
  · simp [Cell.bel, bm]
  · exact d_lst (app_0.trans rfl) e' z
  · exact d_lst (app_k.trans rfl) e' z
theorem fRun_nil {wf : Nat} {cal : Nat → List W → Hs → R W} {T : Tab} {t : Tg} {b : Sts} {env : Env} : fRun T cal wf t b env ⟨wI (iot 0 (Int.toNat 0)), none, false⟩ h = .ok (.next env) h := rfl
theorem gr_new {a : Nat} (h : Hs) (l' : Hs) (e0 : l'[0]? = some (GINS (h.length + a) p l)) (e1 : l'[a]? = some (.dct (kvT l))) : GrAt (h ++ l') h.length (h.length + a) p l := ⟨app_0.trans e0, app_k.trans e1⟩
theorem gins_bel {k a : Nat} : (GINS a p l).bel k = decide (a < k) := by simp [GINS, Cell.bel, W.bel, wI_bel]
theorem kvT_bel {k : Nat} : (Cell.dct (kvT l)).bel k = true := by simp [Cell.bel, kvT, W.bel]
theorem iot_get : ∀ {n : Nat} {s : Int} {k : Nat} {x : W}, (wI (iot s n))[k]? = some x → x = .int (s + k)
  | 0, _, _, _, e => by cases e
  | n + 1, s, 0, x, e => by cases e; simp
  | n + 1, s, k + 1, x, e => by
    have := iot_get (n := n) (s := s + 1) (k := k) (x := x) e
    rw [this]
    congr 1
    omega
theorem optW_non {o : Option Int} : decide (optW o = .non) = o.isNone := by cases o <;> simp [optW]
theorem tst_eq {b : Bool} {A : R W} {h : Hs} (e : b = true → A = R.ok (.bl false) h) : (W.bl b).tst A (R.ok (.bl false) h) = R.ok (.bl false) h := by
  cases b with
  | true => exact e rfl
  | false => rfl
theorem optW_drf {k : Nat} {h : Hs} {o : Option Int} : drf (k + 1) h (optW o) = some (match o with | some x => .int x | none => .non) := by cases o <;> rfl
theorem optW_bel {k : Nat} {o : Option Int} : (optW o).bel k = true := by cases o <;> rfl
theorem o_addL {a b : Nat} {xs ys : List W} (ea : h[a]? = some (.lst xs)) (eb : h[b]? = some (.lst ys)) (z : xs.length + ys.length ≤ SZ) : op2 h .add (.ref a) (.ref b) = .ok (.ref h.length) (h ++ [.lst (xs ++ ys)]) := by
  unfold op2
  simp only [ea, eb, z, if_true]
theorem allI_wI : ∀ {l : List Int}, allI (wI l) = some l
  | [] => rfl
  | i :: l => by rw [wI_cons, allI, allI_wI]; rfl
theorem sortS_wI {l : List Int} (z : (sortU l).length < 4000) : ((allI (wI l)).bind fun ns => if (sortU ns).length < 4000 then some ((sortU ns).map W.int) else none) = some (wI (sortU l)) := by
  rw [allI_wI]
  show (if (sortU l).length < 4000 then _ else _) = _
  rw [if_pos z]; rfl
theorem bi_tuple {T : Tab} {a : Nat} {ws : List W} (e : h[a]? = some (.lst ws)) : bi1 h T .tuple [.ref a] = .ok (.tup ws) h := by
  unfold bi1
  simp only [e]
theorem told_told {cal : Nat → List W → Hs → R W} {T : Tab} : cmpV T cal .ne sTold (.str (PySem.Str.ofString "told")) h = .ok (.bl false) h := cv_strs (by decide +kernel)
theorem told_bel {a k : Nat} : (Cell.lst [sTold, .ref a]).bel k = decide (a < k) := by simp [Cell.bel, W.bels, W.bel, sTold]
theorem isC_nn {w : W} : isCk false none h w = .ok (.bl (decide (w = .non) == false)) h := rfl
theorem isi_g (G : GrAt h g d p l) : bi1 h P.T (.isi (.cls 9)) [.ref g] = .ok (.bl true) h := by
  have := ty_ins (t := .cls 9) G.g T_plain9
  rw [bi_isi this]; rfl
theorem d_str {n : Nat} {h : Hs} {x : PySem.Str} (o : PySem.PyData.strOk x = true) (z : x.length ≤ 1000000) : drf (n + 1) h (.str x) = some (.str x) := by
  rw [drf, if_pos ⟨o, z⟩]
end
end K77
end

section
set_option Elab.async false
set_option linter.all false
set_option maxRecDepth 100000
set_option maxHeartbeats 8000000
/-! k76: wrong values are refused. -/
namespace K77
open MP
section
variable {p q : Int} {l m : List Int} {h : Hs} {g d g2 d2 n r : Nat} {b : Bool} {N : Int} {w : W} {o : Option Nat}
def NotB (lo hi : Int) (w : W) : Prop := ∀ i, w = .int i → ¬ (lo ≤ i ∧ i ≤ hi)
theorem odd_between (dd : Odd o h w) {lo hi : Int} (nb : NotB lo hi w) : callN P (n + 2) 1 [w, .int lo, .int hi] h = .ok (.bl false) h := by
  cases dd with
  | flat f =>
    cases f with
    | non => exact is_between_no (p := false) (q := false) rfl rfl rfl
    | bl b => exact is_between_no (p := true) (q := true) rfl rfl rfl
    | int i =>
      rw [is_between_int]
      have := nb i rfl
      have : (decide (lo ≤ i) && decide (i ≤ hi)) = false := by
        rw [Bool.and_eq_false_iff]
        simp only [decide_eq_false_iff_not]
        omega
      rw [this]
    | str x o z => exact is_between_no (p := false) (q := false) rfl rfl rfl
  | tup f z => exact is_between_no (p := false) (q := false) rfl rfl rfl
  | lst g f z => exact is_between_no (p := false) (q := false) (ty_lst g) (ty_lst g) rfl
  | dct g => exact is_between_no (p := false) (q := false) (ty_dct g) (ty_dct g) rfl
theorem same76 (k : Nat) (h : Hs) (a c : W) (v : DV) (w : Wf h) (e1 : drf 5 h a = some v) (e2 : drf 5 h c = some v) : callN P (k + 11) 26 [a, c] h = .ok (.bl true) h := same5 w e1 e2
theorem kept76 {t : Nat} {x : PySem.Str} (fx : Fl1 (.str x)) (e : h[t]? = some (.lst [.str x, w, .bl true])) (d : Odd o h w) (wf : Wf h) : ∃ h', callN P (n + 13) 30 [.ref t, .str x, w] h = .ok (.bl true) h' ∧ UpO o h h' ∧ Wf h' :=
  kept_ok (P := P) (f := 26) (fb := 29) (fk := 30) same76 (fun n a b h => c__law_blamed) (fun n a b c h => c__law_kept) fx e d wf
theorem copy76 (d : Odd o h w) (wf : Wf h) : ∃ v l', callN P (n + 2) 28 [w] h = .ok v (h ++ l') ∧ l'.all (·.bel (h.length + l'.length)) = true ∧ v.bel (h.length + l'.length) = true :=
  copy_ok (P := P) (fc := 28) (fun n a h => c__law_copy) d wf
/-- one of a row of values -/
theorem pick {h : Hs} {a : Nat} {ws : List W} {x : Int} (Q : W → Prop) (e : h[a]? = some (.lst ws)) (h0 : 0 ≤ x) (h1 : x < ws.length) (q : ∀ w ∈ ws, Q w) : ∃ w, idx2 h (.ref a) (.int x) = .ok w h ∧ Q w := by
  have e1 : ws[x.toNat]? = some ws[x.toNat] := List.getElem?_eq_getElem (by omega)
  exact ⟨_, idx_lst e h0 e1, q _ (List.getElem_mem _)⟩
theorem pw28 : op2 h .pow (.int 10) (.int 28) = .ok (.int 10000000000000000000000000000) h := o_pow (by decide) (by decide) (by decide)
theorem pw20 : op2 h .pow (.int 10) (.int 20) = .ok (.int 100000000000000000000) h := o_pow (by decide) (by decide) (by decide)
/-- a wrong number -/
theorem no_number (s : HSt r h N) (hN : N ≤ 900000) {lo hi : Int} (h1 : lo ≤ 1) (h2 : 3 ≤ hi) (h3 : hi ≤ 1000000000000000000) : ∃ w o h', callN P (n + 2) 36 [.ref r, .int lo, .int hi] h = .ok w h' ∧ HSt r h' (N + 1) ∧ Up r h h' ∧ Odd o h' w ∧ NotB lo hi w ∧ ∀ q, o = some q → h.length ≤ q ∧ q < h'.length := by
  rw [c__law_no_number, b__law_no_number]
  have hr := s.lt
  simp only [EV, EVS, EVR, EVX, pw28]
  have e0 : ∀ (a : List W), (h ++ [Cell.lst [.int 3]] ++ [.dct []] ++ [.lst a])[h.length]? = some (.lst [.int 3]) := fun a => app_at (app_at app_new)
  have e1 : ∀ (a : List W), (h ++ [Cell.lst [.int 3]] ++ [.dct []] ++ [.lst a])[(h ++ [Cell.lst [.int 3]]).length]? = some (.dct []) := fun a => app_at app_new
  have sX := ((s.app (c := .lst [.int 3]) rfl).app (c := .dct []) rfl).app (c := .lst [.int (lo - 1), .int (hi + 1), .non, .bl true, .str (PySem.Str.ofString "3"), .tup [.int 3], .ref h.length, .ref (h ++ [Cell.lst [.int 3]]).length, .int 10000000000000000000000000000, .tup [], .bl false]) (by simp [Cell.bel, W.bels, W.bel]; omega)
  have uX := ((Up.app (r := r) (h := h) (l := [.lst [.int 3]])).trans (Up.app (l := [.dct []]))).trans (Up.app (l := [.lst [.int (lo - 1), .int (hi + 1), .non, .bl true, .str (PySem.Str.ofString "3"), .tup [.int 3], .ref h.length, .ref (h ++ [Cell.lst [.int 3]]).length, .int 10000000000000000000000000000, .tup [], .bl false]]))
  obtain ⟨x, h2, e2, x0, x1, s2, u2, n2⟩ := take76 (n := n) sX (by omega) (show (1 : Int) ≤ 11 by decide) (by decide)
  have lx : (h ++ [Cell.lst [.int 3]] ++ [Cell.dct []]).length = h.length + 2 := by simp
  have l1 : (h ++ [Cell.lst [.int 3]]).length = h.length + 1 := by simp
  have k3 := u2.at (app_new (h := h ++ [Cell.lst [.int 3]] ++ [.dct []]) (c := .lst [.int (lo - 1), .int (hi + 1), .non, .bl true, .str (PySem.Str.ofString "3"), .tup [.int 3], .ref h.length, .ref (h ++ [Cell.lst [.int 3]]).length, .int 10000000000000000000000000000, .tup [], .bl false])) (by omega)
  have k0 := u2.at (e0 [.int (lo - 1), .int (hi + 1), .non, .bl true, .str (PySem.Str.ofString "3"), .tup [.int 3], .ref h.length, .ref (h ++ [Cell.lst [.int 3]]).length, .int 10000000000000000000000000000, .tup [], .bl false]) (by omega)
  have k1 := u2.at (e1 [.int (lo - 1), .int (hi + 1), .non, .bl true, .str (PySem.Str.ofString "3"), .tup [.int 3], .ref h.length, .ref (h ++ [Cell.lst [.int 3]]).length, .int 10000000000000000000000000000, .tup [], .bl false]) (by omega)
  have U := uX.trans u2
  have hl2 : h2.length = h.length + 3 := by rw [n2]; simp
  have nbI : ∀ i : Int, ¬ (lo ≤ i ∧ i ≤ hi) → NotB lo hi (.int i) := fun i hi j e => by cases e; exact hi
  obtain ⟨w, ew, o, dd, nb, qq⟩ := pick (x := x) (fun w => ∃ o, Odd o h2 w ∧ NotB lo hi w ∧ ∀ q, o = some q → h.length ≤ q ∧ q < h2.length) k3 x0 (by simpa using x1) (fun w hw => by
    simp only [List.mem_cons, List.not_mem_nil, or_false] at hw
    rcases hw with rfl | rfl | rfl | rfl | rfl | rfl | rfl | rfl | rfl | rfl | rfl
    · exact ⟨none, .flat (.int _), nbI _ (by omega), (fun _ e => by cases e)⟩
    · exact ⟨none, .flat (.int _), nbI _ (by omega), (fun _ e => by cases e)⟩
    · exact ⟨none, .flat .non, (fun _ e => by cases e), (fun _ e => by cases e)⟩
    · exact ⟨none, .flat (.bl _), (fun _ e => by cases e), (fun _ e => by cases e)⟩
    · exact ⟨none, .flat (.str _ (by decide +kernel) (by decide +kernel)), (fun _ e => by cases e), (fun _ e => by cases e)⟩
    · exact ⟨none, .tup (fun w hw => by obtain rfl : w = .int 3 := by simpa using hw
                                        exact .int _) (by simp), (fun _ e => by cases e), (fun _ e => by cases e)⟩
    · exact ⟨some _, .lst k0 (fun w hw => by obtain rfl : w = .int 3 := by simpa using hw
                                             exact .int _) (by simp), (fun _ e => by cases e), (fun q e => by cases e; omega)⟩
    · exact ⟨some _, .dct k1, (fun _ e => by cases e), (fun q e => by cases e; omega)⟩
    · exact ⟨none, .flat (.int _), nbI _ (by omega), (fun _ e => by cases e)⟩
    · exact ⟨none, .tup (fun w hw => by cases hw) (by simp), (fun _ e => by cases e), (fun _ e => by cases e)⟩
    · exact ⟨none, .flat (.bl _), (fun _ e => by cases e), (fun _ e => by cases e)⟩)
  simp only [EV, EVS, EVR, EVX, e2, ew]
  obtain ⟨z1, z2⟩ := cut_HSt (ws := [w]) s2 U hr
  cases dd with
  | flat f => exact ⟨_, none, _, rfl, z1, z2, .flat f, nb, (fun _ e => by cases e)⟩
  | tup f z => exact ⟨_, none, _, rfl, z1, z2, .tup f z, nb, (fun _ e => by cases e)⟩
  | lst g f z =>
    have := qq _ rfl
    rw [cut_no (by simp [W.bels, W.bel]; omega)] at z1 z2 ⊢
    exact ⟨_, some _, _, rfl, z1, z2, .lst g f z, nb, qq⟩
  | dct g =>
    have := qq _ rfl
    rw [cut_no (by simp [W.bels, W.bel]; omega)] at z1 z2 ⊢
    exact ⟨_, some _, _, rfl, z1, z2, .dct g, nb, qq⟩
end
end K77
end

section
set_option Elab.async false
set_option linter.all false
set_option maxRecDepth 100000
set_option maxHeartbeats 8000000
/-! k76: what is refused is refused with the very value. -/
namespace K77
open MP
section
variable {p q : Int} {l m : List Int} {h : Hs} {g d g2 d2 n r : Nat} {b : Bool} {N : Int} {w : W} {o : Option Nat}
theorem nbI {lo hi i : Int} (h : ¬ (lo ≤ i ∧ i ≤ hi)) : NotB lo hi (.int i) := fun j e => by cases e; exact h
theorem one_fl {w x : W} (f : Fl1 w) (hx : x ∈ [w]) : Fl1 x := by
  obtain rfl : x = w := by simpa using hx
  exact f
theorem two_fl {w v x : W} (f : Fl1 w) (g : Fl1 v) (hx : x ∈ [w, v]) : Fl1 x := by
  simp only [List.mem_cons, List.not_mem_nil, or_false] at hx
  rcases hx with rfl | rfl
  · exact f
  · exact g
theorem fstr2 : Fl1 (.str (PySem.Str.ofString "24")) := .str _ (by decide +kernel) (by decide +kernel)
theorem fstr0 : Fl1 (.str (PySem.Str.ofString "0")) := .str _ (by decide +kernel) (by decide +kernel)
end
end K77
end

section
set_option Elab.async false
set_option linter.all false
set_option maxRecDepth 100000
set_option maxHeartbeats 8000000
/-! k76: the law's cells, boxes, drawn grains. -/
namespace K77
open MP
section
variable {p q : Int} {l m : List Int} {h : Hs} {g d g2 d2 n r : Nat} {b : Bool} {N : Int} {w : W} {o : Option Nat}
theorem idx_frz {r : Nat} {ws : List W} {i : Int} {w : W} (hr : h[r]? = some (.frz ws)) (h0 : 0 ≤ i) (e : ws[i.toNat]? = some w) : idx2 h (.ref r) (.int i) = .ok w h := by
  unfold idx2
  simp only [hr]
  rw [atI_nn h0, e]; rfl
theorem len_frz {T : Tab} {r : Nat} {ws : List W} (e : h[r]? = some (.frz ws)) : bi1 h T .len [.ref r] = .ok (.int ws.length) h := by
  unfold bi1
  simp only [e]
theorem slc_frz {r : Nat} {ws : List W} {a b : Option Int} (e : h[r]? = some (.frz ws)) : slc2 h (.ref r) a b = .ok (.ref h.length) (h ++ [.lst (sliceL a b ws)]) := by
  unfold slc2
  simp only [e]
theorem lb_sum {l : List Int} : lb1 h .sum (wI l) = .ok (.int l.sum) h := by
  show R.opt h ((allI (wI l)).map fun ns => W.int ns.sum) = _
  rw [allI_wI]; rfl
theorem slice_wI {a b : Option Int} {l : List Int} : ∃ m, sliceL a b (wI l) = wI m := by
  unfold sliceL wI
  rw [List.map_drop.symm, List.map_take.symm]
  exact ⟨_, rfl⟩
theorem cell_ok {ns : List Int} {k : Int} (w : Wf h) (e : h[0]? = some (.frz (wI ns))) (h0 : 0 ≤ k) (h1 : k < 1000) : ∃ i : Int, callN P (n + 1) 23 [.ref 0, .int k] h = .ok (.int i) h := by
  rw [c__law_cell, b__law_cell]
  obtain ⟨m, em⟩ := slice_wI (l := ns) (a := none) (b := some 1)
  simp only [EV, EVS, EVR, EVX, len_frz e, wI_len]
  by_cases c : k < ns.length
  · simp only [c, decide_true]
    have : (wI ns)[k.toNat]? = some (.int (ns.getD k.toNat 0)) := getD_at (l := ns) h0 c
    simp only [EV, EVS, EVR, EVX, idx_frz e h0 this]
    exact ⟨_, rfl⟩
  · have c : decide (k < ns.length) = false := by simpa using c
    simp only [c, EV, EVS, EVR, EVX, o_mulL (show (6101 : Int).natAbs < 2 ^ 64 by decide), oInt_int, slc_frz e, em, lb_sum, o_mod (show (0 : Int) < 1000003 by decide)]
    rw [cut_app w (by simp [W.bels, W.bel])]
    exact ⟨_, rfl⟩
theorem box_ok {i : Int} (w : Wf h) : ∃ h', callN P (n + 1) 24 [.int i] h = .ok (.ref h.length) h' ∧ HSt h.length h' 0 ∧ ∀ (k : Nat) (c : Cell), h[k]? = some c → h'[k]? = some c := by
  rw [c__law_box, b__law_box]
  have pg := fun (a b : Int) => cv_ge (T := P.T) (cal := callN P n) (h := h) (a := a) (b := b)
  simp only [EV, EVS, EVR, EVX, bi_abs, pw18, o_mod (show (0 : Int) < 2147483629 by decide)]
  rw [cut_no (by simp [W.bels, W.bel])]
  refine ⟨_, rfl, ⟨w.app rfl, _, app_new, _, _, _, _, rfl, ?_, Int.emod_nonneg _ (by decide), Int.emod_lt_of_pos _ (by decide), by decide, by decide⟩, fun k c e => app_at e⟩
  split <;> omega
/-! ### a drawn grain -/
def stepOk (f st : Int) : Bool := decide (0 < st ∧ st < 1073741824 ∧ PySem.Builtin.Range.small f 12 st = true ∧ 0 ≤ PySem.Builtin.Range.rangeSize f 12 st ∧ PySem.Builtin.Range.rangeSize f 12 st ≤ 16777216) && decide (rngSI f st (PySem.Builtin.Range.rangeSize f 12 st).toNat ≠ []) && decide ((rngSI f st (PySem.Builtin.Range.rangeSize f 12 st).toNat).Pairwise (· < ·)) && (rngSI f st (PySem.Builtin.Range.rangeSize f 12 st).toNat).all fun m => decide (0 ≤ m) && decide (m < 12)
theorem steps_ok : ([1, 2, 3, 4, 6, 12].all fun st => (iot 0 st.toNat).all fun f => stepOk f st) = true := by decide +kernel
theorem step_ok {f st : Int} (h1 : st ∈ [1, 2, 3, 4, 6, 12]) (h2 : 0 ≤ f) (h3 : f < st) : ∃ l, (∀ h, rngOf h [.int f, .int 12, .int st] = .ok ⟨wI l, none, false⟩ h) ∧ GOk 12 l := by
  have := List.all_eq_true.mp (List.all_eq_true.mp steps_ok st h1) f (iot_mem.mpr ⟨h2, by omega⟩)
  unfold stepOk at this
  rw [Bool.and_eq_true, Bool.and_eq_true, Bool.and_eq_true, decide_eq_true_eq, decide_eq_true_eq, decide_eq_true_eq, List.all_eq_true] at this
  obtain ⟨⟨⟨c1, c2⟩, c3⟩, c4⟩ := this
  refine ⟨_, fun h => rng3 c1, ⟨by decide, by decide, c2, c3, fun m hm => ?_⟩⟩
  have := c4 m hm
  simpa using this
theorem grain_ok {v : Int} (s : HSt r h N) (hN : N ≤ 900000) (h0 : 0 ≤ v) (v5 : v < 6) : ∃ p l h', callN P (n + 2) 31 [.ref r, .int v] h = .ok (grW (p, l)) h' ∧ GOk p l ∧ p ≤ 360 ∧ HSt r h' (N + 20) ∧ Up r h h' := by
  rw [c__law_grain, b__law_grain]
  have hr := s.lt
  obtain ⟨x1, h1, e1, x10, x11, s1, u1, n1⟩ := take76 (n := n) s (by omega) (show (1 : Int) ≤ 12 by decide) (by decide)
  obtain ⟨x2, h2, e2, x20, x21, s2, u2, n2⟩ := take76 (n := n) s1 (by omega) (show (1 : Int) ≤ 60 by decide) (by decide)
  obtain ⟨x3, h3, e3, x30, x31, s3, u3, n3⟩ := take76 (n := n) s2 (by omega) (show (1 : Int) ≤ 6 by decide) (by decide)
  have v6 : v % 6 = v := Int.emod_eq_of_lt h0 (by omega)
  have s4 := s3.app (c := .lst [.int (1 + x1), .int 24, .int (1 + x2), .int 12, .int 360, .int (6 * (1 + x3))]) rfl
  have u4 := ((u1.trans u2).trans u3).trans (Up.app (l := [.lst [.int (1 + x1), .int 24, .int (1 + x2), .int 12, .int 360, .int (6 * (1 + x3))]]))
  obtain ⟨wp, ep, per, rfl, p1, p2⟩ := pick (x := v) (fun w => ∃ p : Int, w = .int p ∧ 1 ≤ p ∧ p ≤ 360) (app_new (h := h3) (c := .lst [.int (1 + x1), .int 24, .int (1 + x2), .int 12, .int 360, .int (6 * (1 + x3))])) h0 (by simpa using v5) (fun w hw => by
    simp only [List.mem_cons, List.not_mem_nil, or_false] at hw
    rcases hw with rfl | rfl | rfl | rfl | rfl | rfl <;> exact ⟨_, rfl, by omega, by omega⟩)
  simp only [EV, EVS, EVR, EVX, e1, e2, e3, o_mulL (show (6 : Int).natAbs < 2 ^ 64 by decide), o_mod (show (0 : Int) < 6 by decide), v6, ep]
  generalize h3 ++ [Cell.lst [.int (1 + x1), .int 24, .int (1 + x2), .int 12, .int 360, .int (6 * (1 + x3))]] = h4 at s4 u4 ⊢
  have r4 := s4.lt
  by_cases c3 : v = 3
  · subst c3
    have s5 := s4.app (c := .lst [.int 1, .int 2, .int 3, .int 4, .int 6, .int 12]) rfl
    have u5 := u4.trans (Up.app (l := [.lst [.int 1, .int 2, .int 3, .int 4, .int 6, .int 12]]))
    obtain ⟨x6, h6, e6, x60, x61, s6, u6, n6⟩ := take76 (n := n) s5 (by omega) (show (1 : Int) ≤ 6 by decide) (by decide)
    have k6 := u6.at (app_new (h := h4) (c := .lst [.int 1, .int 2, .int 3, .int 4, .int 6, .int 12])) (by omega)
    obtain ⟨ws, es, st, rfl, hst⟩ := pick (x := x6) (fun w => ∃ p : Int, w = .int p ∧ p ∈ ([1, 2, 3, 4, 6, 12] : List Int)) k6 x60 (by simpa using x61) (fun w hw => by
      simp only [List.mem_cons, List.not_mem_nil, or_false] at hw
      rcases hw with rfl | rfl | rfl | rfl | rfl | rfl <;> exact ⟨_, rfl, by simp⟩)
    have st1 : 1 ≤ st ∧ st ≤ 12 := by
      simp only [List.mem_cons, List.not_mem_nil, or_false] at hst
      omega
    obtain ⟨x7, h7, e7, x70, x71, s7, u7, n7⟩ := take76 (n := n) s6 (by omega) (show (1 : Int) ≤ st by omega) (by omega)
    obtain ⟨lr, er, Or⟩ := step_ok hst x70 x71
    simp only [decide_true, EV, EVS, EVR, EVX, e6, es, e7, rngI_ok (er _), lb_tuple]
    obtain ⟨z1, z2⟩ := cut_HSt (ws := [grW (12, lr)]) s7 ((u5.trans u6).trans u7) hr
    exact ⟨12, lr, _, rfl, Or, by decide, z1.mono (by omega), z2⟩
  · have c3 : decide (v = 3) = false := by simpa using c3
    have s5 := s4.app (c := .lst [.int 4, .int 3, .int 9, .int 1, .int 5, .int 2]) rfl
    have u5 := u4.trans (Up.app (l := [.lst [.int 4, .int 3, .int 9, .int 1, .int 5, .int 2]]))
    have k6 := app_new (h := h4) (c := .lst [.int 4, .int 3, .int 9, .int 1, .int 5, .int 2])
    obtain ⟨ws, es, ct, rfl, hct⟩ := pick (x := v) (fun w => ∃ p : Int, w = .int p ∧ 1 ≤ p ∧ p ≤ 9) k6 h0 (by simpa using v5) (fun w hw => by
      simp only [List.mem_cons, List.not_mem_nil, or_false] at hw
      rcases hw with rfl | rfl | rfl | rfl | rfl | rfl <;> exact ⟨_, rfl, by omega, by omega⟩)
    obtain ⟨x7, h7, e7, x70, x71, s7, u7, n7⟩ := take76 (n := n) s5 (by omega) (show (1 : Int) ≤ ct by omega) (by omega)
    simp only [c3, EV, EVS, EVR, EVX, o_mod (show (0 : Int) < 6 by decide), v6, es, e7]
    rw [rng1 (by omega) (by omega)]
    simp only [EV, EVS, EVR, EVX]
    have U7 := u5.trans u7
    obtain ⟨ys, h8, e8, ns, rfl, nl, nr, s8, u8⟩ := cRun_st (T := P.T) (cal := callN P (n + 1)) (e := .call 25 (.cons (.var 0) (.cons (.var 2) .nil))) (t := .name 6) (c := .none) (ws := [6]) (env := [some (W.ref r), some (W.int v), some (W.int per), none, none, none, none]) (g := none) (l := false) (all := wI (iot 0 (1 + x7).toNat)) (h := h7)
      (fun k acc h' => ∃ ns, acc = wI ns ∧ ns.length = k ∧ (∀ i ∈ ns, 0 ≤ i ∧ i < per) ∧ HSt r h' (N + 4 + k) ∧ Up r h7 h') (by rw [wI_len, iot_len]; have : SZ = 16777216 := rfl; omega) (fun _ _ _ _ => rfl) (fun k x acc h' e i => by
        obtain ⟨ns, rfl, nl, nr, s', u'⟩ := i
        have hk := lt_of_get e
        rw [wI_len, iot_len] at hk
        obtain rfl := iot_get e
        obtain ⟨x9, h9, e9, x90, x91, s9, u9, n9⟩ := take76 (n := n) s' (by omega) (show (1 : Int) ≤ per by omega) (by omega)
        refine ⟨[.int x9], h9, by simp only [EV, EVS, EVR, EVX, e9], ns ++ [x9], by rw [← wI_app]; rfl, by simp [nl], fun i hi => ?_, s9.mono (by omega), u'.trans u9⟩
        rcases List.mem_append.mp hi with a | a
        · exact nr i a
        · obtain rfl : i = x9 := by simpa using a
          exact ⟨x90, x91⟩) ⟨[], rfl, rfl, (fun _ h => by cases h), s7.mono (by omega), Up.rfl'⟩
    rw [wI_len, iot_len] at nl s8
    have ne : sortU ns ≠ [] := by
      have : ns.length ≠ 0 := by omega
      cases ns with
      | nil => exact absurd rfl this
      | cons a t => exact List.ne_nil_of_mem (sortU_mem.mpr (List.mem_cons_self (a := a) (l := t)))
    have O : GOk per (sortU ns) := ⟨p1, by omega, ne, sortU_pw _, fun m hm => nr m (sortU_mem.mp hm)⟩
    have lsU : (sortU ns).length < 4000 := by have := O.len; omega
    simp only [e8, EV, EVS, EVR, EVX, sortS_wI lsU, bi_tuple app_new]
    have s9 := s8.app (c := .lst (wI (sortU ns))) wI_bel
    obtain ⟨z1, z2⟩ := cut_HSt (ws := [grW (per, sortU ns)]) s9 ((U7.trans u8).trans Up.app) hr
    exact ⟨per, sortU ns, _, rfl, O, p2, z1.mono (by omega), z2⟩
theorem form_ok (O : GOk p l) : GOk (formF p l).1 (formF p l).2 ∧ (formF p l).1 ≤ p := by
  have a1 := O.p1
  have a2 := O.p2
  unfold formF
  split
  · rename_i one ef
    have hm := iot_mem.mp (List.mem_of_find?_eq_some ef)
    have hc := List.find?_some ef
    unfold condF at hc
    rw [Bool.and_eq_true, decide_eq_true_eq] at hc
    have hd := hc.1
    have ho : one ≤ p := by omega
    have lc := hc.2
    rw [cond_iff O hm.1 hd] at lc
    unfold lcB at lc
    simp only [decide_eq_true_eq, List.filter_eq_nil_iff, Bool.not_eq_true', decide_eq_false_iff_not, Classical.not_not] at lc
    refine ⟨⟨hm.1, by dsimp only; omega, ?_, O.pw.filter _, fun m hm => ?_⟩, ho⟩
    · obtain ⟨x, hx⟩ := List.exists_mem_of_ne_nil _ O.ne
      have hr := O.rg x hx
      have e1 := Int.emod_nonneg x (show one ≠ 0 by omega)
      have e2 := Int.emod_lt_of_pos x (show 0 < one by omega)
      have := lc x (iot_mem.mpr ⟨hr.1, by omega⟩)
      have h1 : x % one ∈ l := by
        have h2 : l.contains x = true := by simpa using hx
        rw [h2] at this
        simpa using this
      exact List.ne_nil_of_mem (List.mem_filter.mpr ⟨h1, by simpa using e2⟩)
    · have h1 := List.mem_filter.mp hm
      have h2 := O.rg m h1.1
      exact ⟨h2.1, by simpa using h1.2⟩
  · exact ⟨O, Int.le_refl _⟩
end
end K77
end

section
set_option Elab.async false
set_option linter.all false
set_option maxRecDepth 100000
set_option maxHeartbeats 8000000
/-! k77: lows and indices, in plain numbers. -/
namespace K77
open MP
section
variable {p q : Int} {l m : List Int}
theorem getD_lt {l : List Int} (pw : l.Pairwise (· < ·)) {i j : Nat} (hij : i < j) (hj : j < l.length) : l.getD i 0 < l.getD j 0 := by
  have := List.pairwise_iff_getElem.mp pw i j (by omega) hj hij
  rw [List.getD_eq_getElem?_getD, List.getD_eq_getElem?_getD, List.getElem?_eq_getElem (by omega), List.getElem?_eq_getElem hj]
  exact this
theorem getD_mem {l : List Int} {i : Nat} (h : i < l.length) : l.getD i 0 ∈ l := by
  rw [List.getD_eq_getElem?_getD, List.getElem?_eq_getElem h]
  exact List.getElem_mem h
theorem div_at {a n r : Int} (h0 : 0 ≤ r) (h1 : r < n) : (a * n + r) / n = a ∧ (a * n + r) % n = r := by
  constructor
  · rw [Int.add_comm, Int.add_mul_ediv_right _ _ (by omega), Int.ediv_eq_zero_of_lt h0 h1]; omega
  · rw [Int.add_comm, Int.add_mul_emod_self_right, Int.emod_eq_of_lt h0 h1]
theorem low_at {a : Int} {k : Nat} (hk : k < l.length) : lowF p l (a * l.length + k) = a * p + l.getD k 0 := by
  have := div_at (a := a) (n := l.length) (r := k) (by omega) (by omega)
  unfold lowF
  rw [this.1, this.2]
  simp
theorem split_at (O : GOk p l) (i : Int) : ∃ (a : Int) (k : Nat), k < l.length ∧ i = a * l.length + k := by
  have hl := O.len
  have h1 := Int.emod_nonneg i (show (l.length : Int) ≠ 0 by omega)
  have h2 := Int.emod_lt_of_pos i (show 0 < (l.length : Int) by omega)
  have h3 := Int.emod_add_mul_ediv i l.length
  refine ⟨i / l.length, (i % l.length).toNat, by omega, ?_⟩
  rw [Int.toNat_of_nonneg h1, Int.mul_comm]; omega
theorem low_s (O : GOk p l) (i : Int) : lowF p l i < lowF p l (i + 1) := by
  obtain ⟨a, k, hk, rfl⟩ := split_at O i
  have r1 := O.rg _ (getD_mem hk)
  rw [low_at hk]
  by_cases h : k + 1 < l.length
  · rw [show a * (l.length : Int) + k + 1 = a * l.length + ((k + 1 : Nat) : Int) by omega, low_at h]
    have := getD_lt O.pw (show k < k + 1 by omega) h
    omega
  · have h0 : 0 < l.length := O.len.1
    have e : a * (l.length : Int) + k + 1 = (a + 1) * l.length + ((0 : Nat) : Int) := by rw [Int.add_mul]; omega
    rw [e, low_at h0, Int.add_mul]
    have r2 := O.rg _ (getD_mem h0)
    omega
theorem low_mono (O : GOk p l) {i : Int} : ∀ (n : Nat), lowF p l i + n ≤ lowF p l (i + n)
  | 0 => by simp
  | n + 1 => by
    have h1 := low_mono O (i := i) n
    have h2 := low_s O (i + n)
    rw [show i + ((n + 1 : Nat) : Int) = i + n + 1 by omega]
    omega
theorem low_lt (O : GOk p l) {i j : Int} (h : i < j) : lowF p l i < lowF p l j := by
  have := low_mono O (i := i) (j - i).toNat
  rw [show i + ((j - i).toNat : Int) = j by omega] at this
  omega
theorem low_add (O : GOk p l) (i t : Int) : lowF p l (i + l.length * t) = lowF p l i + p * t := by
  obtain ⟨a, k, hk, rfl⟩ := split_at O i
  rw [show a * (l.length : Int) + k + l.length * t = (a + t) * l.length + k by rw [Int.add_mul, Int.mul_comm t]; omega, low_at hk, low_at hk, Int.add_mul, Int.mul_comm p t]
  omega
theorem cnt_iff (O : GOk p l) {r : Int} {k : Nat} (hk : k < l.length) : l.getD k 0 ≤ r ↔ k < (l.filter fun m => decide (m ≤ r)).length := by
  have := filt_iot r l 0 O.pw
  have h1 : (k : Int) ∈ (iot 0 l.length).filter (fun k => decide (l.getD (k - 0).toNat 0 ≤ r)) ↔ (k : Int) ∈ iot 0 (l.filter fun m => decide (m ≤ r)).length := by rw [this]
  rw [List.mem_filter, iot_mem, iot_mem] at h1
  simp only [Int.sub_zero, Int.toNat_natCast, decide_eq_true_eq] at h1
  constructor
  · intro h; have := h1.mp ⟨by omega, h⟩; omega
  · intro h; exact (h1.mpr (by omega)).2
theorem idx_spec (O : GOk p l) (x : Int) : lowF p l (idxF p l x) ≤ x ∧ x < lowF p l (idxF p l x + 1) := by
  have a1 := O.p1
  have h0 : 0 < l.length := O.len.1
  have r0 := Int.emod_nonneg x (show p ≠ 0 by omega)
  have r1 := Int.emod_lt_of_pos x (show 0 < p by omega)
  have ex := Int.emod_add_mul_ediv x p
  have cl : (l.filter fun m => decide (m ≤ x % p)).length ≤ l.length := List.length_filter_le _ _
  have ci := fun k (hk : k < l.length) => cnt_iff O (r := x % p) (k := k) hk
  unfold idxF
  generalize (l.filter fun m => decide (m ≤ x % p)).length = c at cl ci ⊢
  have mc : x / p * p = p * (x / p) := Int.mul_comm _ _
  have nxt : x < lowF p l (x / p * l.length + c - 1 + 1) := by
    rw [show x / p * (l.length : Int) + c - 1 + 1 = x / p * l.length + c by omega]
    by_cases h : c < l.length
    · rw [low_at h]
      have := (not_congr (ci c h)).mpr (by omega)
      omega
    · have e : x / p * (l.length : Int) + c = (x / p + 1) * l.length + ((0 : Nat) : Int) := by rw [Int.add_mul]; omega
      rw [e, low_at h0, Int.add_mul]
      have r2 := O.rg _ (getD_mem h0)
      omega
  refine ⟨?_, nxt⟩
  cases c with
  | zero =>
    have e : x / p * (l.length : Int) + ((0 : Nat) : Int) - 1 = (x / p - 1) * l.length + ((l.length - 1 : Nat) : Int) := by rw [Int.sub_mul]; omega
    rw [e, low_at (by omega), Int.sub_mul]
    have r2 := O.rg _ (getD_mem (show l.length - 1 < l.length by omega))
    omega
  | succ c =>
    have e : x / p * (l.length : Int) + ((c + 1 : Nat) : Int) - 1 = x / p * l.length + c := by omega
    rw [e, low_at (by omega)]
    have := (ci c (by omega)).mpr (by omega)
    omega
theorem idx_uniq (O : GOk p l) {x i : Int} (h1 : lowF p l i ≤ x) (h2 : x < lowF p l (i + 1)) : idxF p l x = i := by
  obtain ⟨s1, s2⟩ := idx_spec O x
  rcases Int.lt_trichotomy (idxF p l x) i with h | h | h
  · exfalso
    rcases Int.lt_or_eq_of_le (show idxF p l x + 1 ≤ i by omega) with h | h
    · have := low_lt O h; omega
    · rw [h] at s2; omega
  · exact h
  · exfalso
    rcases Int.lt_or_eq_of_le (show i + 1 ≤ idxF p l x by omega) with h | h
    · have := low_lt O h; omega
    · rw [← h] at s1; omega
theorem inner_eq (O : GOk p l) (a : Int) : idxF p l (a - 1) + 1 = if lowF p l (idxF p l a) = a then idxF p l a else idxF p l a + 1 := by
  obtain ⟨s1, s2⟩ := idx_spec O a
  by_cases h : lowF p l (idxF p l a) = a
  · rw [if_pos h]
    have := low_s O (idxF p l a - 1)
    rw [show idxF p l a - 1 + 1 = idxF p l a by omega] at this
    have : idxF p l (a - 1) = idxF p l a - 1 := idx_uniq O (by omega) (by rw [show idxF p l a - 1 + 1 = idxF p l a by omega]; omega)
    omega
  · rw [if_neg h]
    rw [idx_uniq O (x := a - 1) (i := idxF p l a) (by omega) (by omega)]
theorem outer_eq (O : GOk p l) (b : Int) : idxF p l b - 1 = if lowF p l (idxF p l (b - 1) + 1) = b then idxF p l (b - 1) else idxF p l (b - 1) - 1 := by
  obtain ⟨s1, s2⟩ := idx_spec O (b - 1)
  by_cases h : lowF p l (idxF p l (b - 1) + 1) = b
  · rw [if_pos h]
    have := low_s O (idxF p l (b - 1) + 1)
    rw [idx_uniq O (x := b) (i := idxF p l (b - 1) + 1) (by omega) (by omega)]
    omega
  · rw [if_neg h]
    rw [idx_uniq O (x := b) (i := idxF p l (b - 1)) (by omega) (by omega)]
theorem low_mem (O : GOk p l) (i : Int) : l.contains (lowF p l i % p) = true := by
  obtain ⟨a, k, hk, rfl⟩ := split_at O i
  rw [low_at hk]
  have r := O.rg _ (getD_mem hk)
  rw [(div_at r.1 r.2).2]
  simpa using getD_mem hk
theorem mem_low (O : GOk p l) {x : Int} (h : l.contains (x % p) = true) : lowF p l (idxF p l x) = x := by
  have a1 := O.p1
  have hm : x % p ∈ l := by simpa using h
  obtain ⟨k, hk, e⟩ := List.mem_iff_getElem.mp hm
  have ex := Int.emod_add_mul_ediv x p
  have e2 : l.getD k 0 = x % p := by rw [List.getD_eq_getElem?_getD, List.getElem?_eq_getElem hk, ← e]; rfl
  have e3 : lowF p l (x / p * l.length + k) = x := by
    rw [low_at hk, e2, Int.mul_comm]; omega
  have := low_s O (x / p * l.length + k)
  rw [idx_uniq O (x := x) (i := x / p * l.length + k) (by omega) (by omega)]
  exact e3
end
end K77
end

section
set_option Elab.async false
set_option linter.all false
set_option maxRecDepth 100000
set_option maxHeartbeats 8000000
/-! k77: intervals by blocks, moves. -/
namespace K77
open MP
section
variable {p q : Int} {l m : List Int} {h : Hs} {g d g2 d2 n r : Nat} {b : Bool} {N x y : Int} {w : W} {o : Option Nat}
def ivW (x y : Int) : W := .tup [.int x, .int y]
theorem iv0 : idx2 h (ivW x y) (.int 0) = .ok (.int x) h := rfl
theorem iv1 : idx2 h (ivW x y) (.int 1) = .ok (.int y) h := rfl
theorem iv_isi : bi1 h P.T (.isi .tuple) [ivW x y] = .ok (.bl true) h := rfl
theorem iv_len : bi1 h P.T .len [ivW x y] = .ok (.int 2) h := rfl
structure IvOk (x y : Int) : Prop where
  a : -1000 ≤ x
  b : x < y
  c : y ≤ 1000
theorem known_iv (I : IvOk x y) : callN P (n + 3) 10 [ivW x y, .int (-1000), .int 1000] h = .ok (.bl true) h := by
  rw [c_is_known, b_is_known]
  obtain ⟨a, b, c⟩ := I
  have h1 : decide (-1000 ≤ x) = true := by simpa using a
  have h2 : decide (x ≤ 1000) = true := by simp; omega
  have h3 : decide (x + 1 ≤ y) = true := by simp; omega
  have h4 : decide (y ≤ 1000) = true := by simpa using c
  simp only [EV, EVS, EVR, EVX, iv_isi, iv_len, iv0, iv1, is_between_int, h1, h2, h3, h4, Bool.and_true, Bool.not_true, decide_true]
theorem check_iv (I : IvOk x y) : callN P (n + 4) 11 [ivW x y, .int (-1000), .int 1000] h = .ok .non h := by
  rw [c_check_interval, b_check_interval]
  simp only [EV, EVS, EVR, EVX, known_iv I, Bool.not_true]
theorem check_no (e : callN P (n + 3) 10 [w, .int (-1000), .int 1000] h = .ok (.bl false) h) : callN P (n + 4) 11 [w, .int (-1000), .int 1000] h = .raise 4 [w] h := by
  rw [c_check_interval, b_check_interval]
  simp only [EV, EVS, EVR, EVX, e, Bool.not_false, eS_raise T_exf4, List.length_cons, List.length_nil]
theorem ap_n {l : List W} : ([] : List W) ++ l = l := rfl
theorem ap_c {x : W} {l m : List W} : (x :: l) ++ m = x :: (l ++ m) := rfl
theorem mp_n : ([] : List Int).map W.int = [] := rfl
theorem mp_c {i : Int} {l : List Int} : (i :: l).map W.int = .int i :: l.map W.int := rfl
def AP := And.intro @ap_n (And.intro @ap_c (And.intro @mp_n @mp_c))
def innW (p : Int) (l : List Int) (x y : Int) : W := if idxF p l (x - 1) + 1 ≤ idxF p l y - 1 then .tup [.int (idxF p l (x - 1) + 1), .int (idxF p l y - 1)] else .non
theorem inner_ok (G : GrAt h g d p l) (O : GOk p l) : callN P (n + 2) 13 [.ref g, ivW x y] h = .ok (innW p l x y) h := by
  rw [c_inner_blocks, b_inner_blocks]
  simp only [EV, EVS, EVR, EVX, iv0, iv1, methOf_ok G.g T_m50, index_of_eq G O]
  unfold innW
  by_cases c : idxF p l (x - 1) + 1 ≤ idxF p l y - 1
  · simp only [c, decide_true, EV, EVS, EVR, EVX, if_true]
  · simp only [c, decide_false, EV, EVS, EVR, EVX, if_false]
theorem whole_ok (G : GrAt h g d p l) (O : GOk p l) (I : IvOk x y) : callN P (n + 5) 14 [.ref g, ivW x y] h = .ok (innW p l x y) h := by
  rw [c_whole_blocks, b_whole_blocks]
  simp only [EV, EVS, EVR, EVX, AP, check_iv I, inner_ok G O]
theorem touched_ok (G : GrAt h g d p l) (O : GOk p l) (I : IvOk x y) : callN P (n + 5) 15 [.ref g, ivW x y] h = .ok (.tup [.int (idxF p l x), .int (idxF p l (y - 1))]) h := by
  rw [c_touched_blocks, b_touched_blocks]
  simp only [EV, EVS, EVR, EVX, AP, check_iv I, iv0, iv1, methOf_ok G.g T_m50, index_of_eq G O]
theorem out_ok77 (G : GrAt h g d p l) (O : GOk p l) (I : IvOk x y) : callN P (n + 5) 16 [.ref g, ivW x y] h = .ok (.tup [.int (lowF p l (idxF p l x)), .int (lowF p l (idxF p l (y - 1) + 1))]) h := by
  rw [c_rounded_out, b_rounded_out]
  simp only [EV, EVS, EVR, EVX, AP, check_iv I, iv0, iv1, methOf_ok G.g T_m50, methOf_ok G.g T_m49, index_of_eq G O, low_of_eq G O]
def inW (p : Int) (l : List Int) (x y : Int) : W := if idxF p l (x - 1) + 1 ≤ idxF p l y - 1 then .tup [.int (lowF p l (idxF p l (x - 1) + 1)), .int (lowF p l (idxF p l y - 1 + 1))] else .non
theorem isC_n1 : isCk true none h .non = .ok (.bl true) h := rfl
theorem isC_n2 {ws : List W} : isCk true none h (.tup ws) = .ok (.bl false) h := by
  show R.ok (W.bl (decide (W.tup ws = .non) == true)) h = _
  have : decide (W.tup ws = W.non) = false := by simp
  rw [this]; rfl
theorem in_ok77 (G : GrAt h g d p l) (O : GOk p l) (I : IvOk x y) : callN P (n + 5) 17 [.ref g, ivW x y] h = .ok (inW p l x y) h := by
  rw [c_rounded_in, b_rounded_in]
  simp only [EV, EVS, EVR, EVX, AP, check_iv I, inner_ok G O]
  unfold innW inW
  by_cases c : idxF p l (x - 1) + 1 ≤ idxF p l y - 1
  · simp only [c, EV, EVS, EVR, EVX, if_true, isC_n2, methOf_ok G.g T_m49, low_of_eq G O]
  · simp only [c, EV, EVS, EVR, EVX, if_false, isC_n1]
theorem interval_no {f : Nat} (hf : f = 14 ∨ f = 15 ∨ f = 16 ∨ f = 17) {w2 : W} (e : callN P (n + 3) 10 [w, .int (-1000), .int 1000] h = .ok (.bl false) h) : callN P (n + 5) f [w2, w] h = .raise 4 [w] h := by
  rcases hf with rfl | rfl | rfl | rfl
  · rw [c_whole_blocks, b_whole_blocks]; simp only [EV, EVS, EVR, EVX, AP, check_no e]
  · rw [c_touched_blocks, b_touched_blocks]; simp only [EV, EVS, EVR, EVX, AP, check_no e]
  · rw [c_rounded_out, b_rounded_out]; simp only [EV, EVS, EVR, EVX, AP, check_no e]
  · rw [c_rounded_in, b_rounded_in]; simp only [EV, EVS, EVR, EVX, AP, check_no e]
theorem bi_min {T : Tab} {i j : Int} : bi1 h T .min2 [.int i, .int j] = .ok (.int (if j < i then j else i)) h := rfl
theorem bi_max {T : Tab} {i j : Int} : bi1 h T .max2 [.int i, .int j] = .ok (.int (if j > i then j else i)) h := rfl
def minI (i j : Int) : Int := if j < i then j else i
def movF (p : Int) (l : List Int) (x y : Int) : Int := minI (lowF p l (idxF p l x + y) + x - lowF p l (idxF p l x)) (lowF p l (idxF p l x + y + 1) - 1)
theorem moved_ok (G : GrAt h g d p l) (O : GOk p l) (h1 : -1000000000000000000 ≤ x) (h2 : x ≤ 1000000000000000000) (h3 : -1000 ≤ y) (h4 : y ≤ 1000) : callN P (n + 4) 18 [.ref g, .int x, .int y] h = .ok (.int (movF p l x y)) h := by
  rw [c_moved_by, b_moved_by]
  have e3 : decide (-1000 ≤ y) = true := by simpa using h3
  have e4 : decide (y ≤ 1000) = true := by simpa using h4
  simp only [EV, EVS, EVR, EVX, check_great_int h1 h2, T_g7, g_MOST_BLOCKS, is_between_int, e3, e4, Bool.and_true, Bool.not_true, methOf_ok G.g T_m50, methOf_ok G.g T_m49, index_of_eq G O, low_of_eq G O, bi_min]
  rfl
theorem moved_no1 {w2 : W} (e : callN P (n + 2) 1 [w, .int (-1000000000000000000), .int 1000000000000000000] h = .ok (.bl false) h) : callN P (n + 4) 18 [.ref g, w, w2] h = .raise 6 [w] h := by
  rw [c_moved_by, b_moved_by]
  simp only [EV, EVS, EVR, EVX, check_great_no e]
theorem moved_no2 (h1 : -1000000000000000000 ≤ x) (h2 : x ≤ 1000000000000000000) (e : callN P (n + 3) 1 [w, .int (-1000), .int 1000] h = .ok (.bl false) h) : callN P (n + 4) 18 [.ref g, .int x, w] h = .raise 1 [w] h := by
  rw [c_moved_by, b_moved_by]
  simp only [EV, EVS, EVR, EVX, check_great_int h1 h2, T_g7, g_MOST_BLOCKS, e, Bool.not_false, eS_raise T_exf1, List.length_cons, List.length_nil]
/-! ### lengths -/
def lensL (p : Int) (l : List Int) : List Int := (iot 0 l.length).map fun k => lowF p l (k + 1) - lowF p l k
theorem lens_ok (G : GrAt h g d p l) (O : GOk p l) : callN P (n + 2) 19 [.ref g] h = .ok (.ref h.length) (h ++ [.lst (wI (lensL p l))]) := by
  rw [c_lengths_of, b_lengths_of]
  have hl := O.len
  have z : SZ = 16777216 := rfl
  simp only [EV, EVS, EVR, EVX, G.f4, wI_len]
  rw [rng1 (by omega) (by omega), show ((l.length : Nat) : Int).toNat = l.length by omega]
  simp only [EV, EVS, EVR, EVX]
  rw [cRun_map (fun k => .int (lowF p l (k + 1) - lowF p l k)) (by rw [iot_len]; omega) rfl fun k _ => by simp only [EV, EVS, EVR, EVX, methOf_ok G.g T_m49, low_of_eq G O]]
  simp only [EV, EVS, EVR, EVX]
  rw [cut_ref0]
  unfold lensL wI
  rw [List.map_map]
  rfl
theorem lens_len : (lensL p l).length = l.length := by unfold lensL; rw [List.length_map, iot_len]
theorem sortU_le : ∀ (l : List Int), (sortU l).length ≤ l.length
  | [] => Nat.le_refl _
  | x :: r => by
    have ins : ∀ (x : Int) (l : List Int), (insU x l).length ≤ l.length + 1 := fun x l => by
      induction l with
      | nil => simp [insU]
      | cons y r ih =>
        unfold insU
        split
        · simp
        · split
          · simp
          · simp only [List.length_cons]; omega
    have := ins x (sortU r)
    have := sortU_le r
    rw [sortU, List.length_cons]; omega
theorem steady_ok (G : GrAt h g d p l) (O : GOk p l) (w : Wf h) : callN P (n + 3) 20 [.ref g] h = .ok (.tup (wI (sortU (lensL p l)))) h := by
  rw [c_steady_lengths, b_steady_lengths]
  have hl := O.len
  have := sortU_le (lensL p l)
  have := lens_len (p := p) (l := l)
  simp only [EV, EVS, EVR, EVX, lens_ok G O, sortS_wI (l := lensL p l) (by omega), lb_tuple]
  rw [cut_app w (by rw [W.bels, W.bel, wI_bel]; rfl)]
end
end K77
end

section
set_option Elab.async false
set_option linter.all false
set_option maxRecDepth 100000
set_option maxHeartbeats 8000000
/-! k77: the longest block, groups. -/
namespace K77
open MP
section
variable {p q : Int} {l m : List Int} {h : Hs} {g d g2 d2 n r : Nat} {b : Bool} {N x y : Int} {w : W} {o : Option Nat}
theorem foldMax_mem : ∀ (l : List Int) (x : Int), foldMax x l = x ∨ foldMax x l ∈ l
  | [], x => .inl rfl
  | y :: l, x => by
    rw [foldMax]
    rcases foldMax_mem l (if y > x then y else x) with e | e
    · rw [e]
      split
      · exact .inr (List.mem_cons_self ..)
      · exact .inl rfl
    · exact .inr (List.mem_cons_of_mem _ e)
def mxI : List Int → Int
  | [] => 0
  | x :: r => foldMax x r
theorem mxI_mem {l : List Int} (h : l ≠ []) : mxI l ∈ l := by
  cases l with
  | nil => exact absurd rfl h
  | cons x r =>
    rcases foldMax_mem r x with e | e
    · rw [mxI, e]; exact List.mem_cons_self ..
    · exact List.mem_cons_of_mem _ e
theorem lb_max {l : List Int} (e : l ≠ []) : lb1 h .max (wI l) = .ok (.int (mxI l)) h := by
  show (match allI (wI l) with | some (x :: r) => R.ok (W.int (foldMax x r)) h | _ => .stuck) = _
  rw [allI_wI]
  cases l with
  | nil => exact absurd rfl e
  | cons x r => rfl
theorem find_ix : ∀ {l : List Int} {v : Int}, v ∈ l → ∃ j, (wI l).findIdx? (fun y => eqF y (W.int v)) = some j
  | x :: l, v, h => by
    rw [wI_cons, List.findIdx?_cons]
    by_cases e : eqF (.int x) (.int v) = true
    · exact ⟨0, by rw [if_pos e]⟩
    · rw [if_neg e]
      rcases List.mem_cons.mp h with rfl | h
      · exact absurd (by simp [eqF]) e
      · obtain ⟨j, ej⟩ := find_ix h
        exact ⟨j + 1, by rw [ej]; rfl⟩
theorem flat_wI {l : List Int} : (wI l).all W.flat = true := List.all_eq_true.mpr fun w hw => by
  obtain ⟨i, _, rfl⟩ := List.mem_map.mp hw
  rfl
theorem bm_ix {v : Int} (hv : v ∈ l) : ∃ j : Int, ∀ (h : Hs) (r : Nat), h[r]? = some (.lst (wI l)) → bm2 h .index (.ref r) [.int v] = .ok (.int j) h := by
  obtain ⟨j, ej⟩ := find_ix hv
  refine ⟨j, fun h r e => ?_⟩
  unfold bm2
  simp only [e]
  rw [if_pos (by rw [flat_wI]; rfl), ej]
theorem bmK_ix {ws : List W} (e : h[r]? = some (.lst ws)) : bmK h .index (.ref r) = true := by
  unfold bmK
  simp only [e]
theorem longest_ok (O : GOk p l) : ∃ j : Int, (∀ (n : Nat) (h : Hs) (g d : Nat), GrAt h g d p l → Wf h → callN P (n + 3) 21 [.ref g] h = .ok (.int j) h) ∧ ∀ (h : Hs) (r : Nat), h[r]? = some (.lst (wI (lensL p l))) → bm2 h .index (.ref r) [.int (mxI (lensL p l))] = .ok (.int j) h := by
  have ne : lensL p l ≠ [] := by
    intro z
    have := lens_len (p := p) (l := l)
    have := O.len
    rw [z] at *
    simp at *
    omega
  obtain ⟨j, ej⟩ := bm_ix (mxI_mem ne)
  refine ⟨j, fun n h g d G w => ?_, ej⟩
  rw [c_longest_block, b_longest_block]
  simp only [EV, EVS, EVR, EVX, lens_ok G O, lb_max ne, bmK_ix app_new, ej _ _ app_new]
  rw [cut_app w rfl]
/-! ### sorted -/
theorem insI_mem {x y : Int} : ∀ {l : List Int}, y ∈ insI x l ↔ y = x ∨ y ∈ l
  | [] => by simp [insI]
  | z :: r => by
    unfold insI
    split
    · simp
    · simp only [List.mem_cons, insI_mem (l := r)]
      constructor
      · rintro (h | h | h) <;> simp [h]
      · rintro (h | h | h) <;> simp [h]
theorem sortI_mem {y : Int} : ∀ {l : List Int}, y ∈ sortI l ↔ y ∈ l
  | [] => by simp [sortI]
  | x :: r => by rw [sortI, insI_mem, sortI_mem (l := r), List.mem_cons]
theorem insI_pw {x : Int} : ∀ {l : List Int}, x ∉ l → l.Pairwise (· < ·) → (insI x l).Pairwise (· < ·)
  | [], _, _ => by simp [insI]
  | z :: r, hx, h => by
    obtain ⟨h1, h2⟩ := List.pairwise_cons.mp h
    unfold insI
    split
    · rename_i c
      have : x ≠ z := fun e => hx (by rw [e]; exact List.mem_cons_self ..)
      refine List.pairwise_cons.mpr ⟨fun y hy => ?_, h⟩
      rcases List.mem_cons.mp hy with rfl | hy
      · omega
      · have := h1 y hy; omega
    · rename_i c
      refine List.pairwise_cons.mpr ⟨fun y hy => ?_, insI_pw (fun z => hx (List.mem_cons_of_mem _ z)) h2⟩
      rcases insI_mem.mp hy with rfl | hy
      · omega
      · exact h1 y hy
theorem sortI_pw : ∀ {l : List Int}, l.Nodup → (sortI l).Pairwise (· < ·)
  | [], _ => .nil
  | x :: r, h => by
    obtain ⟨h1, h2⟩ := List.nodup_cons.mp h
    exact insI_pw (fun z => h1 (sortI_mem.mp z)) (sortI_pw h2)
theorem sortI_wI {l : List Int} : ((allI (wI l)).map fun ns => (sortI ns).map W.int) = some (wI (sortI l)) := by
  rw [allI_wI]; rfl
/-! ### groups -/
def timF (l : List Int) (x : Int) : Int := x / (Nat.gcd l.length x.toNat : Nat)
def cntF (l : List Int) (x : Int) : Int := l.length * timF l x / x
def rawL (p : Int) (l : List Int) (x y : Int) : List Int := (iot 0 (cntF l x).toNat).map fun k => lowF p l (y + x * k) % (p * timF l x)
theorem tim_facts (O : GOk p l) (h1 : 1 ≤ x) (h2 : x ≤ 24) : 1 ≤ timF l x ∧ timF l x ≤ 24 ∧ 1 ≤ cntF l x ∧ cntF l x ≤ 3600 * 24 ∧ cntF l x * x = l.length * timF l x := by
  have hl := O.len
  have g0 : 0 < Nat.gcd l.length x.toNat := Nat.gcd_pos_of_pos_left _ hl.1
  obtain ⟨a, ha⟩ := Nat.gcd_dvd_left l.length x.toNat
  obtain ⟨c, hc⟩ := Nat.gcd_dvd_right l.length x.toNat
  generalize hg : Nat.gcd l.length x.toNat = g at g0 ha hc
  have ex : x = g * c := by
    have : (x.toNat : Int) = (g * c : Nat) := by rw [← hc]
    rw [Int.toNat_of_nonneg (by omega)] at this
    rw [this, Int.natCast_mul]
  have et : timF l x = c := by
    unfold timF
    rw [hg, ex, Int.mul_ediv_cancel_left _ (by omega)]
  have c0 : 1 ≤ c := by
    rcases Nat.eq_zero_or_pos c with z | z
    · rw [z] at hc; simp at hc; omega
    · exact z
  have a0 : 1 ≤ a := by
    rcases Nat.eq_zero_or_pos a with z | z
    · rw [z] at ha; simp at ha; rw [ha] at hl; simp at hl
    · exact z
  have el : (l.length : Int) = g * a := by rw [ha, Int.natCast_mul]
  have ec : cntF l x = a := by
    unfold cntF
    rw [et, el, ex]
    have : (g : Int) * a * c = g * c * a := by rw [Int.mul_assoc, Int.mul_comm (a : Int), ← Int.mul_assoc]
    rw [this, Int.mul_ediv_cancel_left]
    rw [← ex]; omega
  have hcx : (c : Int) ≤ x := by
    rw [ex]
    have := Int.mul_le_mul_of_nonneg_right (show (1 : Int) ≤ g by omega) (show (0 : Int) ≤ c by omega)
    omega
  have hal : (a : Int) ≤ l.length := by
    rw [el]
    have := Int.mul_le_mul_of_nonneg_right (show (1 : Int) ≤ g by omega) (show (0 : Int) ≤ a by omega)
    omega
  refine ⟨by omega, by omega, by omega, by omega, ?_⟩
  rw [ec, et, el, ex, Int.mul_comm (a : Int), Int.mul_assoc, Int.mul_assoc, Int.mul_comm (c : Int)]
theorem raw_nodup (O : GOk p l) (h1 : 1 ≤ x) (h2 : x ≤ 24) : (rawL p l x y).Nodup := by
  obtain ⟨t1, t2, c1, c2, ce⟩ := tim_facts O h1 h2
  have p1 := O.p1
  unfold rawL
  refine List.pairwise_map.mpr ((iot_pw _ _).imp_of_mem fun {a c} ha hc lt => ?_)
  have ha := iot_mem.mp ha
  have hc := iot_mem.mp hc
  have s1 : x * a < x * c := Int.mul_lt_mul_of_pos_left lt (by omega)
  have s2 : x * c < x * a + l.length * timF l x := by
    have : x * (c - a) < x * cntF l x := Int.mul_lt_mul_of_pos_left (by omega) (by omega)
    rw [Int.mul_sub, Int.mul_comm x (cntF l x), ce] at this
    omega
  have l1 := low_lt O (show y + x * a < y + x * c by omega)
  have l2 := low_lt O (show y + x * c < y + x * a + l.length * timF l x by omega)
  rw [low_add O] at l2
  intro e
  have P1 : 0 < p * timF l x := Int.mul_pos (by omega) (by omega)
  have := Int.emod_emod_of_dvd (lowF p l (y + x * c) - lowF p l (y + x * a)) (Int.dvd_refl (p * timF l x))
  have e2 : (lowF p l (y + x * c) - lowF p l (y + x * a)) % (p * timF l x) = 0 := by
    rw [Int.sub_emod, ← e, Int.sub_self, Int.zero_emod]
  rw [Int.emod_eq_of_lt (by omega) (by omega)] at e2
  omega
theorem grp_ok (O : GOk p l) (h1 : 1 ≤ x) (h2 : x ≤ 24) (hb : p * timF l x ≤ 3600) : GOk (p * timF l x) (sortI (rawL p l x y)) := by
  obtain ⟨t1, t2, c1, c2, ce⟩ := tim_facts O h1 h2
  have p1 := O.p1
  have P1 : 0 < p * timF l x := Int.mul_pos (by omega) (by omega)
  refine ⟨by omega, hb, ?_, sortI_pw (raw_nodup O h1 h2), fun m hm => ?_⟩
  · have : lowF p l (y + x * 0) % (p * timF l x) ∈ rawL p l x y := List.mem_map.mpr ⟨0, iot_mem.mpr ⟨by omega, by omega⟩, rfl⟩
    exact List.ne_nil_of_mem (sortI_mem.mpr this)
  · obtain ⟨k, _, rfl⟩ := List.mem_map.mp (sortI_mem.mp hm)
    exact ⟨Int.emod_nonneg _ (by omega), Int.emod_lt_of_pos _ P1⟩
end
end K77
end

section
set_option Elab.async false
set_option linter.all false
set_option maxRecDepth 100000
set_option maxHeartbeats 8000000
/-! k77: grouped, aligned. -/
namespace K77
open MP
section
variable {p q : Int} {l m : List Int} {h : Hs} {g d g2 d2 n r : Nat} {b : Bool} {N x y : Int} {w : W} {o : Option Nat}
theorem grouped_ok (G : GrAt h g d p l) (O : GOk p l) (h1 : 1 ≤ x) (h2 : x ≤ 24) (h3 : 0 ≤ y) (h4 : y ≤ 23) (hp : p ≤ 360) (hb : p * timF l x ≤ 3600) : callN P (n + 7) 12 [.ref g, .int x, .int y] h = .ok (.ref (h.length + 1)) (h ++ [.lst (wI (rawL p l x y)), GINS (h.length + 3) (p * timF l x) (sortI (rawL p l x y)), .dct (kvT [0]), .dct (kvT (sortI (rawL p l x y)))]) := by
  rw [c_grouped, b_grouped]
  obtain ⟨t1, t2, c1, c2, ce⟩ := tim_facts O h1 h2
  have hl := O.len
  have p1 := O.p1
  have z : SZ = 16777216 := rfl
  have e1 : decide (1 ≤ x) = true := by simpa using h1
  have e2 : decide (x ≤ 24) = true := by simpa using h2
  have e3 : decide (0 ≤ y) = true := by simpa using h3
  have e4 : decide (y ≤ 23) = true := by simpa using h4
  have dv := divisor_int (n := n + 5) (h := h) (p := (l.length : Int)) (q := x) (by omega) (by omega) (by omega)
  rw [show ((l.length : Nat) : Int).toNat = l.length by omega] at dv
  have g0 : 0 < Nat.gcd l.length x.toNat := Nat.gcd_pos_of_pos_left _ hl.1
  have g1 : Nat.gcd l.length x.toNat ≤ x.toNat := Nat.gcd_le_right _ (by omega)
  have P1 : 0 < p * timF l x := Int.mul_pos (by omega) (by omega)
  simp only [EV, EVS, EVR, EVX, T_g5, g_MOST_GROUP, T_g6, g_MOST_FIRST, is_between_int, e1, e2, e3, e4, Bool.and_true, Bool.not_true, G.f4, G.f3, wI_len, dv, o_fdiv (show (0 : Int) < (Nat.gcd l.length x.toNat : Nat) by omega) (show ((Nat.gcd l.length x.toNat : Nat) : Int) < 1073741824 by omega)]
  rw [show x / ((Nat.gcd l.length x.toNat : Nat) : Int) = timF l x from rfl, o_mulL (show p.natAbs < 2 ^ 64 by omega)]
  simp only [EV, EVS, EVR, EVX, check_period_ok hb, o_mulL (show ((l.length : Nat) : Int).natAbs < 2 ^ 64 by omega), o_fdiv (show 0 < x by omega) (show x < 1073741824 by omega)]
  rw [show (l.length : Int) * timF l x / x = cntF l x from rfl, rng1 (by omega) (by omega)]
  simp only [EV, EVS, EVR, EVX]
  rw [cRun_map (fun k => .int (lowF p l (y + x * k) % (p * timF l x))) (by rw [iot_len]; omega) rfl fun k _ => by simp only [EV, EVS, EVR, EVX, o_mulL (show x.natAbs < 2 ^ 64 by omega), methOf_ok G.g T_m49, low_of_eq G O, o_mod P1]]
  rw [show ((iot 0 (cntF l x).toNat).map fun k => W.int (lowF p l (y + x * k) % (p * timF l x))) = wI (rawL p l x y) by unfold rawL wI; rw [List.map_map]; rfl]
  have mk := made_of_ok (n := n) (h := h ++ [.lst (wI (rawL p l x y))]) (grp_ok (y := y) O h1 h2 hb)
  simp only [List.length_append, List.length_singleton, Nat.add_assoc, Nat.reduceAdd, List.append_assoc, List.cons_append, List.nil_append] at mk
  simp only [EV, EVS, EVR, EVX, sortI_wI, lb_tuple, mk]
  rw [cut_refn]
  rfl
theorem grouped_large (G : GrAt h g d p l) (O : GOk p l) (h1 : 1 ≤ x) (h2 : x ≤ 24) (h3 : 0 ≤ y) (h4 : y ≤ 23) (hp : p ≤ 360) (hb : 3600 < p * timF l x) : callN P (n + 7) 12 [.ref g, .int x, .int y] h = .raise 8 [.int (p * timF l x)] h := by
  rw [c_grouped, b_grouped]
  obtain ⟨t1, t2, c1, c2, ce⟩ := tim_facts O h1 h2
  have hl := O.len
  have p1 := O.p1
  have e1 : decide (1 ≤ x) = true := by simpa using h1
  have e2 : decide (x ≤ 24) = true := by simpa using h2
  have e3 : decide (0 ≤ y) = true := by simpa using h3
  have e4 : decide (y ≤ 23) = true := by simpa using h4
  have dv := divisor_int (n := n + 5) (h := h) (p := (l.length : Int)) (q := x) (by omega) (by omega) (by omega)
  rw [show ((l.length : Nat) : Int).toNat = l.length by omega] at dv
  have g0 : 0 < Nat.gcd l.length x.toNat := Nat.gcd_pos_of_pos_left _ hl.1
  have g1 : Nat.gcd l.length x.toNat ≤ x.toNat := Nat.gcd_le_right _ (by omega)
  simp only [EV, EVS, EVR, EVX, T_g5, g_MOST_GROUP, T_g6, g_MOST_FIRST, is_between_int, e1, e2, e3, e4, Bool.and_true, Bool.not_true, G.f4, G.f3, wI_len, dv, o_fdiv (show (0 : Int) < (Nat.gcd l.length x.toNat : Nat) by omega) (show ((Nat.gcd l.length x.toNat : Nat) : Int) < 1073741824 by omega)]
  rw [show x / ((Nat.gcd l.length x.toNat : Nat) : Int) = timF l x from rfl, o_mulL (show p.natAbs < 2 ^ 64 by omega)]
  simp only [EV, EVS, EVR, EVX, check_period_no hb]
theorem grouped_no1 {w2 : W} (e : callN P (n + 6) 1 [w, .int 1, .int 24] h = .ok (.bl false) h) : callN P (n + 7) 12 [.ref g, w, w2] h = .raise 6 [w] h := by
  rw [c_grouped, b_grouped]
  simp only [EV, EVS, EVR, EVX, T_g5, g_MOST_GROUP, e, Bool.not_false, eS_raise T_exf6, List.length_cons, List.length_nil]
theorem grouped_no2 (h1 : 1 ≤ x) (h2 : x ≤ 24) (e : callN P (n + 6) 1 [w, .int 0, .int 23] h = .ok (.bl false) h) : callN P (n + 7) 12 [.ref g, .int x, w] h = .raise 2 [w] h := by
  rw [c_grouped, b_grouped]
  have e1 : decide (1 ≤ x) = true := by simpa using h1
  have e2 : decide (x ≤ 24) = true := by simpa using h2
  simp only [EV, EVS, EVR, EVX, T_g5, g_MOST_GROUP, T_g6, g_MOST_FIRST, is_between_int, e1, e2, Bool.and_true, Bool.not_true, e, Bool.not_false, eS_raise T_exf2, List.length_cons, List.length_nil]
/-! ### aligned -/
def bothC (p : Int) (l : List Int) (q : Int) (m : List Int) (x : Int) : Bool := l.contains (x % p) && m.contains (x % q)
theorem find_up {c : Int → Bool} : ∀ (n : Nat) (s v : Int), s ≤ v → v < s + n → c v = true → (∀ x, s ≤ x → x < v → c x = false) → (iot s n).find? c = some v
  | 0, s, v, h1, h2, _, _ => by omega
  | n + 1, s, v, h1, h2, hv, hx => by
    rw [iot, List.find?_cons]
    by_cases e : s = v
    · rw [e, hv]
    · rw [hx s (Int.le_refl _) (by omega)]
      exact find_up n (s + 1) v (by omega) (by omega) hv fun x a b => hx x (by omega) b
theorem find_no {c : Int → Bool} {n : Nat} {s : Int} (hx : ∀ x, s ≤ x → x < s + n → c x = false) : (iot s n).find? c = none := by
  rw [List.find?_eq_none]
  intro x h
  have := iot_mem.mp h
  rw [hx x this.1 this.2]
  exact Bool.false_ne_true
theorem align_loop (G : GrAt h g d p l) (O : GOk p l) (G2 : GrAt h g2 d2 q m) (O2 : GOk q m) {K : Nat} : ∀ (f : Nat) (i : Int), 0 < f → x ≤ lowF p l i → (∀ v, x ≤ v → v < lowF p l i → bothC p l q m v = false) → x + K - lowF p l i < f →
    ∃ fl, wRun P.T (callN P (n + 1)) P.wf (.cmp .lt (.meth (.var 0) 5 (.cons (.var 3) .nil)) (.var 4))
  (.cons (.ite (.meth (.var 1) 1 (.cons (.meth (.var 0) 5 (.cons (.var 3) .nil)) .nil))
  (.cons (.ret (.meth (.var 0) 5 (.cons (.var 3) .nil)))
  .nil)
  .nil)
  (.cons (.asg (.name 3) (.op .add (.var 3) (.int 1)))
  .nil)) f [some (.ref g), some (.ref g2), some (.int x), some (.int i), some (.int (x + K))] h = .ok fl h ∧ match (iot x K).find? (bothC p l q m) with
      | some v => fl = .ret (.int v)
      | none => ∃ j, fl = .next [some (.ref g), some (.ref g2), some (.int x), some (.int j), some (.int (x + K))] := by
  intro f
  induction f with
  | zero =>
    intro i h0
    omega
  | succ f ih =>
    intro i h0 h1 h2 h3
    rw [wRun_s]
    simp only [EV, EVS, EVR, EVX, methOf_ok G.g T_m49, low_of_eq G O]
    by_cases c : lowF p l i < x + K
    · simp only [c, decide_true, EV, EVS, EVR, EVX, methOf_ok G.g T_m49, methOf_ok G2.g T_m48, low_of_eq G O, begins_eq G2 O2]
      cases hm : m.contains (lowF p l i % q) with
      | true =>
        simp only [EV, EVS, EVR, EVX, methOf_ok G.g T_m49, low_of_eq G O]
        rw [find_up K x (lowF p l i) h1 (by omega) (by unfold bothC; rw [low_mem O, hm]; rfl) h2]
        exact ⟨_, rfl, rfl⟩
      | false =>
        simp only [EV, EVS, EVR, EVX]
        have ls := low_s O i
        refine ih (i + 1) (by omega) (by omega) (fun v a b' => ?_) (by omega)
        rcases Int.lt_or_le v (lowF p l i) with z | z
        · exact h2 v a z
        · unfold bothC
          rcases Int.lt_or_eq_of_le z with z | z
          · cases hc : l.contains (v % p) with
            | false => rfl
            | true =>
              have e1 := mem_low O hc
              rw [idx_uniq O (x := v) (i := i) (by omega) b'] at e1
              omega
          · rw [← z, hm, Bool.and_false]
    · simp only [c, decide_false, EV, EVS, EVR, EVX]
      rw [find_no fun v a b' => h2 v a (by omega)]
      exact ⟨_, rfl, _, rfl⟩
def aliF (p : Int) (l : List Int) (q : Int) (m : List Int) (x : Int) : Option Int := (iot x (lcmI p q).toNat).find? (bothC p l q m)
theorem aligned_ok (G : GrAt h g d p l) (O : GOk p l) (G2 : GrAt h g2 d2 q m) (O2 : GOk q m) (h1 : 0 ≤ x) (h2 : x ≤ 1000000000000) (hb : lcmI p q ≤ 5000) : callN P (n + 4) 22 [.ref g, .ref g2, .int x] h = .ok (optW (aliF p l q m x)) h := by
  rw [c_aligned, b_aligned]
  have e1 : decide (0 ≤ x) = true := by simpa using h1
  have e2 : decide (x ≤ 1000000000000) = true := by simpa using h2
  have c0 : 0 ≤ lcmI p q := by unfold lcmI; omega
  obtain ⟨s1, s2⟩ := idx_spec O (x - 1)
  have ec : ((lcmI p q).toNat : Int) = lcmI p q := Int.toNat_of_nonneg c0
  obtain ⟨fl, ef, mf⟩ := align_loop (x := x) (n := n + 2) G O G2 O2 (K := (lcmI p q).toNat) 100000 (idxF p l (x - 1) + 1) (by decide) (by omega) (fun v a b' => by
    unfold bothC
    cases hc : l.contains (v % p) with
    | false => rfl
    | true =>
      have e1 := mem_low O hc
      exfalso
      obtain ⟨t1, t2⟩ := idx_spec O v
      rcases Int.lt_or_le (idxF p l (x - 1)) (idxF p l v) with z | z
      · rcases Int.lt_or_eq_of_le (show idxF p l (x - 1) + 1 ≤ idxF p l v by omega) with z | z
        · have := low_lt O z; omega
        · rw [← z] at e1; omega
      · rcases Int.lt_or_eq_of_le z with z | z
        · have := low_lt O z; omega
        · rw [z] at e1; omega) (by omega)
  rw [ec] at ef
  simp only [EV, EVS, EVR, EVX, T_g8, g_MOST_ALIGNED, is_between_int, e1, e2, Bool.and_true, Bool.not_true, methOf_ok G.g T_m50, index_of_eq G O, whole_period_eq G O G2 O2]
  rw [show P.wf = 100000 from rfl] at ef ⊢
  rw [ef]
  unfold aliF
  cases hf : (iot x (lcmI p q).toNat).find? (bothC p l q m) with
  | some v =>
    rw [hf] at mf
    have mf : fl = .ret (.int v) := mf
    subst mf
    simp only [EV, EVS, EVR, EVX, optW]
  | none =>
    rw [hf] at mf
    obtain ⟨j, mf⟩ : ∃ j, fl = .next [some (.ref g), some (.ref g2), some (.int x), some (.int j), some (.int (x + (lcmI p q).toNat))] := mf
    subst mf
    simp only [EV, EVS, EVR, EVX, optW]
theorem aligned_no {w2 : W} (e : callN P (n + 3) 1 [w, .int 0, .int 1000000000000] h = .ok (.bl false) h) : callN P (n + 4) 22 [.ref g, w2, w] h = .raise 6 [w] h := by
  rw [c_aligned, b_aligned]
  simp only [EV, EVS, EVR, EVX, T_g8, g_MOST_ALIGNED, e, Bool.not_false, eS_raise T_exf6, List.length_cons, List.length_nil]
/-! ### the law's answer -/
theorem both_per (h1 : 1 ≤ p) (h2 : 1 ≤ q) (t : Int) : bothC p l q m (x + lcmI p q * t) = bothC p l q m x := by
  obtain ⟨⟨a, ha⟩, ⟨c, hc⟩⟩ := lcm_dvd h1 h2
  unfold bothC
  congr 2
  · rw [ha, Int.mul_assoc, Int.add_mul_emod_self_left]
  · rw [hc, Int.mul_assoc, Int.add_mul_emod_self_left]
def laterL (p : Int) (l : List Int) (q : Int) (m : List Int) (x : Int) : List Int :=
  (((iot 0 (lcmI p q).toNat).filter (bothC p l q m)).filter fun v => decide (x % lcmI p q ≤ v)) ++ (((iot 0 (lcmI p q).toNat).filter (bothC p l q m)).take 1).map fun v => v + lcmI p q
theorem find_shift {c : Int → Bool} {t : Int} (hc : ∀ x, c (x + t) = c x) : ∀ (n : Nat) (s : Int), (iot (s + t) n).find? c = ((iot s n).find? c).map (· + t)
  | 0, s => rfl
  | n + 1, s => by
    rw [iot, iot, List.find?_cons, List.find?_cons, hc]
    cases c s with
    | true => rfl
    | false =>
      have := find_shift hc n (s + 1)
      rw [show s + 1 + t = s + t + 1 by omega] at this
      exact this
theorem ali_law (h1 : 1 ≤ p) (h2 : 1 ≤ q) (h3 : 1 ≤ lcmI p q) : aliF p l q m x = (laterL p l q m x).head?.map fun v => x - x % lcmI p q + v := by
  have r0 := Int.emod_nonneg x (show lcmI p q ≠ 0 by omega)
  have r1 := Int.emod_lt_of_pos x (show 0 < lcmI p q by omega)
  have ex := Int.emod_add_mul_ediv x (lcmI p q)
  have per := fun t y => both_per (l := l) (m := m) (x := y) h1 h2 t
  unfold aliF laterL
  generalize hN : lcmI p q = N at *
  generalize hc : bothC p l q m = c at *
  have e1 : (iot x N.toNat).find? c = ((iot (x % N) N.toNat).find? c).map (· + N * (x / N)) := by
    have := find_shift (c := c) (t := N * (x / N)) (fun y => per (x / N) y) N.toNat (x % N)
    rw [ex] at this
    exact this
  have e2 : (iot (x % N) N.toNat).find? c = ((((iot 0 N.toNat).filter c).filter fun v => decide (x % N ≤ v)) ++ (((iot 0 N.toNat).filter c).take 1).map fun v => v + N).head? := by
    have sp : iot (x % N) N.toNat = iot (x % N) (N - x % N).toNat ++ iot N (x % N).toNat := by
      have := iot_app (N - x % N).toNat (x % N).toNat (x % N)
      rw [show (N - x % N).toNat + (x % N).toNat = N.toNat by omega, show x % N + ((N - x % N).toNat : Int) = N by omega] at this
      exact this
    have sp0 : iot 0 N.toNat = iot 0 (x % N).toNat ++ iot (x % N) (N - x % N).toNat := by
      have := iot_app (x % N).toNat (N - x % N).toNat 0
      rw [show (x % N).toNat + (N - x % N).toNat = N.toNat by omega, show (0 : Int) + ((x % N).toNat : Int) = x % N by omega] at this
      exact this
    have f1 : ((iot 0 N.toNat).filter c).filter (fun v => decide (x % N ≤ v)) = (iot (x % N) (N - x % N).toNat).filter c := by
      rw [sp0, List.filter_append, List.filter_append]
      have z1 : ((iot 0 (x % N).toNat).filter c).filter (fun v => decide (x % N ≤ v)) = [] := by
        rw [List.filter_eq_nil_iff]
        intro v hv
        have := iot_mem.mp (List.mem_filter.mp hv).1
        simp only [decide_eq_true_eq]
        omega
      have z2 : ((iot (x % N) (N - x % N).toNat).filter c).filter (fun v => decide (x % N ≤ v)) = (iot (x % N) (N - x % N).toNat).filter c := by
        rw [List.filter_eq_self]
        intro v hv
        have := iot_mem.mp (List.mem_filter.mp hv).1
        simp only [decide_eq_true_eq]
        omega
      rw [z1, z2]; rfl
    rw [f1, sp, List.find?_append, ← List.head?_filter, List.head?_append]
    cases hh : ((iot (x % N) (N - x % N).toNat).filter c).head? with
    | some v => rfl
    | none =>
      have nil : (iot (x % N) (N - x % N).toNat).filter c = [] := List.head?_eq_none_iff.mp hh
      rw [Option.none_or, Option.none_or]
      have sh := find_shift (c := c) (t := N) (fun y => by have := per 1 y; rwa [Int.mul_one] at this) (x % N).toNat 0
      rw [Int.zero_add] at sh
      rw [sh, sp0, List.filter_append, nil, List.append_nil, ← List.head?_filter]
      cases (iot 0 (x % N).toNat).filter c with
      | nil => rfl
      | cons v t => rfl
  rw [e1, e2]
  congr 1
  funext v
  omega
end
end K77
end

section
set_option Elab.async false
set_option linter.all false
set_option maxRecDepth 100000
set_option maxHeartbeats 8000000
/-! k77: what the law asks and is told. -/
namespace K77
open MP
section
variable {p q : Int} {l m : List Int} {h : Hs} {g d g2 d2 n r : Nat} {b : Bool} {N x y : Int} {w w2 w3 : W} {o : Option Nat}
theorem pm3 {a c e : W} : permI [2, 1, 0] [a, c, e] = some [e, c, a] := rfl
theorem ask0 (G : GrAt h g d p l) (O : GOk p l) (h1 : 1 ≤ x) (h2 : x ≤ 24) (h3 : 0 ≤ y) (h4 : y ≤ 23) (hp : p ≤ 360) (hb : p * timF l x ≤ 3600) : callN P (n + 8) 37 [.int 0, .ref g, .int x, .int y, .bl b] h = .ok (.ref (h.length + 4)) (h ++ [.lst (wI (rawL p l x y)), GINS (h.length + 3) (p * timF l x) (sortI (rawL p l x y)), .dct (kvT [0]), .dct (kvT (sortI (rawL p l x y))), .lst [sTold, .ref (h.length + 1)]]) := by
  rw [c__law_asked, b__law_asked]
  cases b <;> simp only [EV, EVS, EVR, EVX, Int.reduceEq, decide_false, decide_true, pm3, grouped_ok G O h1 h2 h3 h4 hp hb, List.length_append, List.length_cons, List.length_nil, Nat.zero_add, Nat.reduceAdd, cut_refn, List.append_assoc, List.cons_append, List.nil_append] <;> rfl
theorem ask1 (G : GrAt h g d p l) (O : GOk p l) (I : IvOk x y) : callN P (n + 6) 37 [.int 1, .ref g, ivW x y, .non, .bl b] h = .ok (.ref h.length) (h ++ [.lst [sTold, innW p l x y]]) := by
  rw [c__law_asked, b__law_asked]
  cases b <;> simp only [EV, EVS, EVR, EVX, Int.reduceEq, decide_false, decide_true, pm2, whole_ok G O I, cut_ref0] <;> rfl
theorem ask2 (G : GrAt h g d p l) (O : GOk p l) (I : IvOk x y) : callN P (n + 6) 37 [.int 2, .ref g, ivW x y, .non, .bl b] h = .ok (.ref h.length) (h ++ [.lst [sTold, .tup [.int (idxF p l x), .int (idxF p l (y - 1))]]]) := by
  rw [c__law_asked, b__law_asked]
  cases b <;> simp only [EV, EVS, EVR, EVX, Int.reduceEq, decide_false, decide_true, pm2, touched_ok G O I, cut_ref0] <;> rfl
theorem ask3 (G : GrAt h g d p l) (O : GOk p l) (I : IvOk x y) : callN P (n + 6) 37 [.int 3, .ref g, ivW x y, .non, .bl b] h = .ok (.ref h.length) (h ++ [.lst [sTold, .tup [.int (lowF p l (idxF p l x)), .int (lowF p l (idxF p l (y - 1) + 1))]]]) := by
  rw [c__law_asked, b__law_asked]
  cases b <;> simp only [EV, EVS, EVR, EVX, Int.reduceEq, decide_false, decide_true, pm2, out_ok77 G O I, cut_ref0] <;> rfl
theorem ask4 (G : GrAt h g d p l) (O : GOk p l) (I : IvOk x y) : callN P (n + 6) 37 [.int 4, .ref g, ivW x y, .non, .bl b] h = .ok (.ref h.length) (h ++ [.lst [sTold, inW p l x y]]) := by
  rw [c__law_asked, b__law_asked]
  cases b <;> simp only [EV, EVS, EVR, EVX, Int.reduceEq, decide_false, decide_true, pm2, in_ok77 G O I, cut_ref0] <;> rfl
theorem ask5 (G : GrAt h g d p l) (O : GOk p l) (h1 : -1000000000000000000 ≤ x) (h2 : x ≤ 1000000000000000000) (h3 : -1000 ≤ y) (h4 : y ≤ 1000) : callN P (n + 5) 37 [.int 5, .ref g, .int x, .int y, .bl b] h = .ok (.ref h.length) (h ++ [.lst [sTold, .int (movF p l x y)]]) := by
  rw [c__law_asked, b__law_asked]
  cases b <;> simp only [EV, EVS, EVR, EVX, Int.reduceEq, decide_false, decide_true, pm3, moved_ok G O h1 h2 h3 h4, cut_ref0] <;> rfl
theorem ask6 (G : GrAt h g d p l) (O : GOk p l) (G2 : GrAt h g2 d2 q m) (O2 : GOk q m) (h1 : 0 ≤ x) (h2 : x ≤ 1000000000000) (hb : lcmI p q ≤ 5000) : callN P (n + 5) 37 [.int 6, .ref g, .ref g2, .int x, .bl b] h = .ok (.ref h.length) (h ++ [.lst [sTold, optW (aliF p l q m x)]]) := by
  rw [c__law_asked, b__law_asked]
  cases b <;> simp only [EV, EVS, EVR, EVX, Int.reduceEq, decide_false, decide_true, pm3, aligned_ok G O G2 O2 h1 h2 hb, cut_ref0] <;> rfl
/-! ### refusals -/
def sNum : W := .str (PySem.Str.ofString "number")
def sFir : W := .str (PySem.Str.ofString "first")
def sInt : W := .str (PySem.Str.ofString "interval")
def sBlo : W := .str (PySem.Str.ofString "blocks")
def sLar : W := .str (PySem.Str.ofString "large")
def HDS : List Hd := [⟨6, 5, [.str (PySem.Str.ofString "number"), .fld 1, .isA [(.cls 0)]]⟩, ⟨2, 5, [.str (PySem.Str.ofString "first"), .fld 1, .isA [(.cls 0)]]⟩, ⟨4, 5, [.str (PySem.Str.ofString "interval"), .fld 1, .isA [(.cls 0)]]⟩, ⟨1, 5, [.str (PySem.Str.ofString "blocks"), .fld 1, .isA [(.cls 0)]]⟩, ⟨8, 5, [.str (PySem.Str.ofString "large"), .fld 2, .isA [(.cls 0), .verr]]⟩]
theorem try6 : tryX P.T HDS (.raise 6 [w] h) = .ok (.ret (.ref h.length)) (h ++ [.lst [sNum, w, .bl true]]) := rfl
theorem try2 : tryX P.T HDS (.raise 2 [w] h) = .ok (.ret (.ref h.length)) (h ++ [.lst [sFir, w, .bl true]]) := rfl
theorem try4 : tryX P.T HDS (.raise 4 [w] h) = .ok (.ret (.ref h.length)) (h ++ [.lst [sInt, w, .bl true]]) := rfl
theorem try1 : tryX P.T HDS (.raise 1 [w] h) = .ok (.ret (.ref h.length)) (h ++ [.lst [sBlo, w, .bl true]]) := rfl
theorem try8 : tryX P.T HDS (.raise 8 [w] h) = .ok (.ret (.ref h.length)) (h ++ [.lst [sLar, w, .bl true]]) := rfl
theorem ask0_large (G : GrAt h g d p l) (O : GOk p l) (h1 : 1 ≤ x) (h2 : x ≤ 24) (h3 : 0 ≤ y) (h4 : y ≤ 23) (hp : p ≤ 360) (hb : 3600 < p * timF l x) : callN P (n + 8) 37 [.int 0, .ref g, .int x, .int y, .bl b] h = .ok (.ref h.length) (h ++ [.lst [sLar, .int (p * timF l x), .bl true]]) := by
  rw [c__law_asked, b__law_asked, ← HDS]
  cases b <;> simp only [EV, EVS, EVR, EVX, Int.reduceEq, decide_false, decide_true, pm3, grouped_large G O h1 h2 h3 h4 hp hb, try8, cut_ref0]
theorem ask0_num (e : callN P (n + 6) 1 [w, .int 1, .int 24] h = .ok (.bl false) h) : callN P (n + 8) 37 [.int 0, .ref g, w, w2, .bl b] h = .ok (.ref h.length) (h ++ [.lst [sNum, w, .bl true]]) := by
  rw [c__law_asked, b__law_asked, ← HDS]
  cases b <;> simp only [EV, EVS, EVR, EVX, Int.reduceEq, decide_false, decide_true, pm3, grouped_no1 e, try6, cut_ref0]
theorem ask0_first (h1 : 1 ≤ x) (h2 : x ≤ 24) (e : callN P (n + 6) 1 [w, .int 0, .int 23] h = .ok (.bl false) h) : callN P (n + 8) 37 [.int 0, .ref g, .int x, w, .bl b] h = .ok (.ref h.length) (h ++ [.lst [sFir, w, .bl true]]) := by
  rw [c__law_asked, b__law_asked, ← HDS]
  cases b <;> simp only [EV, EVS, EVR, EVX, Int.reduceEq, decide_false, decide_true, pm3, grouped_no2 h1 h2 e, try2, cut_ref0]
theorem ask_iv {v : Int} (hv : v = 1 ∨ v = 2 ∨ v = 3 ∨ v = 4) (e : callN P (n + 3) 10 [w, .int (-1000), .int 1000] h = .ok (.bl false) h) : callN P (n + 6) 37 [.int v, w2, w, .non, .bl b] h = .ok (.ref h.length) (h ++ [.lst [sInt, w, .bl true]]) := by
  rw [c__law_asked, b__law_asked, ← HDS]
  rcases hv with rfl | rfl | rfl | rfl
  · cases b <;> simp only [EV, EVS, EVR, EVX, Int.reduceEq, decide_false, decide_true, pm2, interval_no (.inl rfl) e, try4, cut_ref0]
  · cases b <;> simp only [EV, EVS, EVR, EVX, Int.reduceEq, decide_false, decide_true, pm2, interval_no (.inr (.inl rfl)) e, try4, cut_ref0]
  · cases b <;> simp only [EV, EVS, EVR, EVX, Int.reduceEq, decide_false, decide_true, pm2, interval_no (.inr (.inr (.inl rfl))) e, try4, cut_ref0]
  · cases b <;> simp only [EV, EVS, EVR, EVX, Int.reduceEq, decide_false, decide_true, pm2, interval_no (.inr (.inr (.inr rfl))) e, try4, cut_ref0]
theorem ask5_num (e : callN P (n + 2) 1 [w, .int (-1000000000000000000), .int 1000000000000000000] h = .ok (.bl false) h) : callN P (n + 5) 37 [.int 5, .ref g, w, w2, .bl b] h = .ok (.ref h.length) (h ++ [.lst [sNum, w, .bl true]]) := by
  rw [c__law_asked, b__law_asked, ← HDS]
  cases b <;> simp only [EV, EVS, EVR, EVX, Int.reduceEq, decide_false, decide_true, pm3, moved_no1 e, try6, cut_ref0]
theorem ask5_blo (h1 : -1000000000000000000 ≤ x) (h2 : x ≤ 1000000000000000000) (e : callN P (n + 3) 1 [w, .int (-1000), .int 1000] h = .ok (.bl false) h) : callN P (n + 5) 37 [.int 5, .ref g, .int x, w, .bl b] h = .ok (.ref h.length) (h ++ [.lst [sBlo, w, .bl true]]) := by
  rw [c__law_asked, b__law_asked, ← HDS]
  cases b <;> simp only [EV, EVS, EVR, EVX, Int.reduceEq, decide_false, decide_true, pm3, moved_no2 h1 h2 e, try1, cut_ref0]
theorem ask6_num (e : callN P (n + 3) 1 [w, .int 0, .int 1000000000000] h = .ok (.bl false) h) : callN P (n + 5) 37 [.int 6, .ref g, w2, w, .bl b] h = .ok (.ref h.length) (h ++ [.lst [sNum, w, .bl true]]) := by
  rw [c__law_asked, b__law_asked, ← HDS]
  cases b <;> simp only [EV, EVS, EVR, EVX, Int.reduceEq, decide_false, decide_true, pm3, aligned_no e, try6, cut_ref0]
/-! ### asked in both ways -/
/-- what was told once, told twice, beside what is due at dd -/
theorem both_ok {v : W} {dv : DV} {dd : Nat} {a1 a2 a3 : W} (wf : Wf h) (ask : ∀ (b : Bool) (l' : Hs), callN P (n + 11) 37 [a1, a2, a3, w3, .bl b] (h ++ l') = .ok (.ref (h ++ l').length) (h ++ l' ++ [.lst [sTold, v]])) (bv : v.bel h.length = true) (ev : drf 3 h v = some dv) (ed : drf 4 h (.ref dd) = some (.lst [.str (PySem.Str.ofString "told"), dv])) (hd : dd < h.length) :
    callN P (n + 12) 38 [a1, a2, a3, w3, .ref dd] h = .ok (.bl true) h := by
  rw [c__law_both, b__law_both]
  have A1 := ask false []
  have A2 := ask true [.lst [sTold, v]]
  simp only [List.append_nil] at A1
  simp only [List.length_append, List.length_singleton, List.append_assoc, List.cons_append, List.nil_append] at A2
  simp only [EV, EVS, EVR, EVX]
  rw [cRun_two (h1 := h ++ [.lst [sTold, v]]) (h2 := h ++ [.lst [sTold, v], .lst [sTold, v]]) (x := .ref h.length) (y := .ref (h.length + 1)) (by simp only [EV, EVS, EVR, EVX, A1]) (by simp only [EV, EVS, EVR, EVX, A2])]
  have bm : ∀ k, v.bel (h.length + k) = true := fun k => (bel_mono (Nat.le_add_right _ _)).1 _ bv
  have sm := same5 (n := n) (h := h ++ [.lst [sTold, v], .lst [sTold, v], .lst [.ref h.length, .ref (h.length + 1)], .lst [.ref dd, .ref dd]]) (a := .ref (h.length + 2)) (c := .ref (h.length + 3)) (v := .lst [.lst [.str (PySem.Str.ofString "told"), dv], .lst [.str (PySem.Str.ofString "told"), dv]]) (wf.apps (by simp [Cell.bel, W.bels, W.bel, sTold, bm 4]; omega))
    (d_lst (app_k.trans rfl) (m_cons (d_lst (app_0.trans rfl) (m_cons d_told (m_cons (drf_app ev) m_nil)) (by simp)) (m_cons (d_lst (app_k.trans rfl) (m_cons d_told (m_cons (drf_app ev) m_nil)) (by simp)) m_nil)) (by simp))
    (d_lst (app_k.trans rfl) (m_cons (drf_app ed) (m_cons (drf_app ed) m_nil)) (by simp))
  simp only [EV, EVS, EVR, EVX, List.length_append, List.length_cons, List.length_nil, Nat.zero_add, Nat.reduceAdd, List.append_assoc, List.cons_append, List.nil_append, sm]
  rw [cut_app wf (by simp [W.bels, W.bel])]
end
end K77
end

section
set_option Elab.async false
set_option linter.all false
set_option maxRecDepth 100000
set_option maxHeartbeats 8000000
/-! k77: groups are right. -/
namespace K77
open MP
section
variable {p q : Int} {l m : List Int} {h : Hs} {g d g2 d2 n r : Nat} {b : Bool} {N x y : Int} {w w2 w3 : W} {o : Option Nat}
/-- each number's value, the heap grows -/
theorem cRun_grow {T : Tab} {cal : Nat → List W → Hs → R W} {e : Ex} {t : Tg} {c : Cnd} {ws : List Nat} {env : Env} {g : Option (Nat × Cell)} {lb : Bool} {is : List Int} {h : Hs} (F : Int → W) (J : Hs → Prop) (hz : is.length ≤ SZ) (hg : ∀ h, J h → gOk g h = true)
    (turn : ∀ i ∈ is, ∀ h, J h → ∃ h', cTurn T cal e t c ws env (.int i) h = .ok [F i] h' ∧ J h') (j : J h) : ∃ h', cRun T cal e t c ws env ⟨wI is, g, lb⟩ h = .ok (is.map F) h' ∧ J h' := by
  obtain ⟨ys, h', e1, e2, e3⟩ := cRun_st (T := T) (cal := cal) (e := e) (t := t) (c := c) (ws := ws) (env := env) (g := g) (l := lb) (all := wI is) (h := h) (fun k acc h => acc = (is.take k).map F ∧ J h) (by rw [wI_len]; exact hz) (fun _ _ _ j => hg _ j.2) (fun k x acc h ek j => by
    obtain ⟨rfl, j⟩ := j
    unfold wI at ek
    rw [List.getElem?_map] at ek
    cases ei : is[k]? with
    | none => rw [ei] at ek; cases ek
    | some i =>
      rw [ei] at ek
      cases ek
      obtain ⟨h', e1, j'⟩ := turn i (List.mem_of_getElem? ei) h j
      refine ⟨[F i], h', e1, ?_, j'⟩
      rw [List.take_add_one, ei, List.map_append]; rfl) ⟨rfl, j⟩
  rw [wI_len, List.take_length] at e2
  exact ⟨h', by rw [e1, e2], e3⟩
theorem lcm_tim (O : GOk p l) (h1 : 1 ≤ x) : lcmI l.length x / l.length = timF l x := by
  have hl := O.len
  unfold lcmI timF Nat.lcm
  rw [show ((l.length : Nat) : Int).toNat = l.length by omega]
  have g0 : 0 < Nat.gcd l.length x.toNat := Nat.gcd_pos_of_pos_left _ hl.1
  obtain ⟨c, hc⟩ := Nat.gcd_dvd_right l.length x.toNat
  have ex : x = ((Nat.gcd l.length x.toNat * c : Nat) : Int) := by rw [← hc, Int.toNat_of_nonneg (by omega)]
  have e1 : l.length * x.toNat / Nat.gcd l.length x.toNat = l.length * c := by
    conv => lhs; lhs; rw [hc, ← Nat.mul_assoc, Nat.mul_comm l.length, Nat.mul_assoc]
    rw [Nat.mul_div_cancel_left _ g0]
  rw [e1, Int.natCast_mul, Int.mul_ediv_cancel_left _ (by omega)]
  conv => rhs; lhs; rw [ex, Int.natCast_mul]
  rw [Int.mul_ediv_cancel_left _ (by omega)]
theorem d_large {n : Nat} {h : Hs} : drf (n + 1) h sLar = some (.str (PySem.Str.ofString "large")) := d_str (by decide +kernel) (by decide +kernel)
theorem slc_lst {r : Nat} {ws : List W} {a b : Option Int} (e : h[r]? = some (.lst ws)) : slc2 h (.ref r) a b = .ok (.ref h.length) (h ++ [.lst (sliceL a b ws)]) := by
  unfold slc2
  simp only [e]
theorem grouped_right (s : HSt r h N) (hN : N ≤ 900000) (G : GrAt h g d p l) (O : GOk p l) (hp : p ≤ 360) (gr : g ≠ r) (dr : d ≠ r) : ∃ h', callN P (n + 20) 39 [.ref r, .ref g, grW (p, l)] h = .ok (.bl true) h' ∧ HSt r h' (N + 20) ∧ Up r h h' := by
  rw [c__law_grouped_right, b__law_grouped_right]
  have p1 := O.p1
  have hl := O.len
  have hr := s.lt
  have z : SZ = 16777216 := rfl
  simp only [EV, EVS, EVR, EVX, idx_gr1, wI_len]
  rw [rng1 (by decide) (by decide)]
  simp only [EV, EVS, EVR, EVX]
  refine ex_for (fun k env h' => ∃ y4 y5 y6 y7 y8 y9 y11 y14, env = [some (W.ref r), some (W.ref g), some (grW (p, l)), some (.int l.length), y4, y5, y6, y7, y8, y9, none, y11, none, none, y14] ∧ HSt r h' (N + 5 * k) ∧ Up r h h') ⟨_, _, _, _, _, _, _, _, rfl, s.mono (by omega), Up.rfl'⟩ (fun k env h' i => rfl) (fun k x env h' e i => ?_) (fun env' h' i => ?_)
  · obtain ⟨y4, y5, y6, y7, y8, y9, y11, y14, rfl, s', u'⟩ := i
    obtain rfl := iot_get e
    have hk := lt_of_get e
    rw [wI_len, iot_len, show (3 : Int).toNat = 3 from rfl] at hk
    refine ⟨_, rfl, ?_⟩
    obtain ⟨x1, h1, e1, x10, x11, s1, u1, n1⟩ := take76 (n := n + 18) s' (by omega) (show (1 : Int) ≤ 24 by decide) (by decide)
    have s2 := s1.app (c := .lst [.int (1 + x1), .int l.length, .int 1, .int 24]) rfl
    obtain ⟨x3, h3, e3, x30, x31, s3, u3, n3⟩ := take76 (n := n + 18) s2 (by omega) (show (1 : Int) ≤ 4 by decide) (by decide)
    have r1 := s1.lt
    obtain ⟨wx, ex, x0, rfl, xb⟩ := pick (x := x3) (fun w => ∃ x : Int, w = .int x ∧ 1 ≤ x) (u3.at (app_new (h := h1) (c := .lst [.int (1 + x1), .int l.length, .int 1, .int 24])) (by omega)) x30 (by simpa using x31) (fun w hw => by
      simp only [List.mem_cons, List.not_mem_nil, or_false] at hw
      rcases hw with rfl | rfl | rfl | rfl <;> exact ⟨_, rfl, by omega⟩)
    obtain ⟨y, h4, e4, y0, y1, s4, u4, n4⟩ := take76 (n := n + 18) s3 (by omega) (show (1 : Int) ≤ 24 by decide) (by decide)
    simp only [EV, EVS, EVR, EVX, e1, e3, ex, e4, bi_min]
    have hx : 1 ≤ (if x0 < 24 then x0 else 24) ∧ (if x0 < 24 then x0 else 24) ≤ 24 := by split <;> omega
    generalize (if x0 < 24 then x0 else 24) = x at hx ⊢
    obtain ⟨t1, t2, c1, c2, ce⟩ := tim_facts O hx.1 hx.2
    have U4 := (((u'.trans u1).trans Up.app).trans u3).trans u4
    obtain ⟨x5, h5, e5, x50, x51, s5, u5, n5⟩ := take76 (n := n + 18) s4 (by omega) (show (1 : Int) ≤ 2 by decide) (by decide)
    have U5 := U4.trans u5
    have G5 : GrAt h5 g d p l := ⟨U5.at G.g gr, U5.at G.d dr⟩
    have s5 := s5.mono (show _ ≤ N + 5 * ((k + 1 : Nat) : Int) by omega)
    simp only [EV, EVS, EVR, EVX, idx_gr0, common_int (show (0 : Int) < (l.length : Int) by omega) (show 0 < x by omega) (show x < 100000 by omega) (show (l.length : Int) < 100000 by omega), o_fdiv (show (0 : Int) < (l.length : Int) by omega) (show (l.length : Int) < 1073741824 by omega), lcm_tim O hx.1, o_mulL (show p.natAbs < 2 ^ 64 by omega), e5]
    by_cases big : p * timF l x ≤ 3600
    · have big1 : decide (3600 < p * timF l x) = false := by simp; omega
      simp only [EV, EVS, EVR, EVX, big1, ask0 (n := n + 11) G5 O hx.1 hx.2 y0 (show y ≤ 23 by omega) hp big]
      have OP := grp_ok (y := y) O hx.1 hx.2 big
      have P1 : 0 < p * timF l x := Int.mul_pos (by omega) (by omega)
      have GN : GrAt (h5 ++ [.lst (wI (rawL p l x y)), GINS (h5.length + 3) (p * timF l x) (sortI (rawL p l x y)), .dct (kvT [0]), .dct (kvT (sortI (rawL p l x y))), .lst [sTold, .ref (h5.length + 1)]]) (h5.length + 1) (h5.length + 3) (p * timF l x) (sortI (rawL p l x y)) := ⟨app_k.trans rfl, app_k.trans rfl⟩
      have kT : (h5 ++ [Cell.lst (wI (rawL p l x y)), GINS (h5.length + 3) (p * timF l x) (sortI (rawL p l x y)), .dct (kvT [0]), .dct (kvT (sortI (rawL p l x y))), .lst [sTold, .ref (h5.length + 1)]])[h5.length + 4]? = some (.lst [sTold, .ref (h5.length + 1)]) := app_k.trans rfl
      have lb : ∀ (ls : List Int) (k : Nat), (Cell.lst (wI ls)).bel k = true := fun ls k => wI_bel
      have sT : HSt r (h5 ++ [.lst (wI (rawL p l x y)), GINS (h5.length + 3) (p * timF l x) (sortI (rawL p l x y)), .dct (kvT [0]), .dct (kvT (sortI (rawL p l x y))), .lst [sTold, .ref (h5.length + 1)]]) (N + 5 * ((k + 1 : Nat) : Int)) := s5.apps (by simp [gins_bel, kvT_bel, told_bel, lb])
      have uT := U5.trans (Up.app (l := [.lst (wI (rawL p l x y)), GINS (h5.length + 3) (p * timF l x) (sortI (rawL p l x y)), .dct (kvT [0]), .dct (kvT (sortI (rawL p l x y))), .lst [sTold, .ref (h5.length + 1)]]))
      have r5 := s5.lt
      have nT : h5.length + 4 ≠ r ∧ h5.length + 1 ≠ r ∧ h5.length + 3 ≠ r := by omega
      generalize h5 ++ [Cell.lst (wI (rawL p l x y)), GINS (h5.length + 3) (p * timF l x) (sortI (rawL p l x y)), .dct (kvT [0]), .dct (kvT (sortI (rawL p l x y))), .lst [sTold, .ref (h5.length + 1)]] = hT at GN kT sT uT ⊢
      generalize h5.length + 4 = tT at kT nT ⊢
      generalize h5.length + 3 = dT at GN nT ⊢
      generalize h5.length + 1 = gT at GN kT nT ⊢
      simp only [EV, EVS, EVR, EVX, idx_gr0, o_fdiv (show 0 < p by omega) (show p < 1073741824 by omega), Int.mul_ediv_cancel_left (timF l x) (show p ≠ 0 by omega), o_mulR (show ((l.length : Nat) : Int).natAbs < 2 ^ 64 by omega), o_fdiv (show 0 < x by omega) (show x < 1073741824 by omega)]
      rw [show timF l x * (l.length : Int) / x = cntF l x by unfold cntF; rw [Int.mul_comm], rng1 (by omega) (by omega)]
      simp only [EV, EVS, EVR, EVX]
      obtain ⟨hL, eL, sL, uL⟩ := cRun_grow (T := P.T) (cal := callN P (n + 19)) (e := ((Ex.call 33
                                    (Exs.cons (Ex.var 2)
                                      (Exs.cons (Ex.op Op2.add (Ex.var 6) (Ex.op Op2.mul (Ex.var 5) (Ex.var 10)))
                                        Exs.nil))).idx
                                (Ex.int 1))) (t := .name 10) (c := .none) (ws := [10]) (env := [some (W.ref r), some (W.ref g), some (grW (p, l)), some (W.int l.length),
                                some (W.int (0 + k)), some (W.int x), some (W.int y), some (W.int (p * timF l x)),
                                some (W.ref tT), y9, none, y11, none, none, y14]) (g := none) (lb := false) (is := iot 0 (cntF l x).toNat) (h := hT) (fun k => .int (lowF p l (y + x * k))) (fun h' => HSt r h' (N + 5 * ((k + 1 : Nat) : Int)) ∧ Up r hT h') (by rw [iot_len]; omega) (fun _ _ => rfl) (fun i _ h' j => by
          obtain ⟨a, l', ec, lb, ea⟩ := law_span2 (n := n + 18) (h := h') O (x := y + x * i)
          exact ⟨h' ++ l', by simp only [EV, EVS, EVR, EVX, o_mulL (show x.natAbs < 2 ^ 64 by omega), ec, idx_l1 ea], j.1.apps lb, j.2.trans Up.app⟩) ⟨sT, Up.rfl'⟩
      have eR : ((iot 0 (cntF l x).toNat).map fun k => W.int (lowF p l (y + x * k))) = wI ((iot 0 (cntF l x).toNat).map fun k => lowF p l (y + x * k)) := by unfold wI; rw [List.map_map]; rfl
      rw [eR] at eL
      rw [eL]
      simp only [EV, EVS, EVR, EVX, lockN]
      have sM := sL.app (c := .lst (wI ((iot 0 (cntF l x).toNat).map fun k => lowF p l (y + x * k)))) wI_bel
      have uM := uL.trans (Up.app (l := [.lst (wI ((iot 0 (cntF l x).toNat).map fun k => lowF p l (y + x * k)))]))
      rw [cRun_map (fun i => .int (i % (p * timF l x))) (by rw [List.length_map, iot_len]; omega) gOkN fun i _ => by simp only [EV, EVS, EVR, EVX, o_mod P1]]
      have eR2 : (((iot 0 (cntF l x).toNat).map fun k => lowF p l (y + x * k)).map fun i => W.int (i % (p * timF l x))) = wI (rawL p l x y) := by unfold rawL wI; rw [List.map_map, List.map_map]; rfl
      rw [eR2]
      simp only [EV, EVS, EVR, EVX, sortI_wI, lb_tuple]
      generalize hL ++ [Cell.lst (wI ((iot 0 (cntF l x).toNat).map fun k => lowF p l (y + x * k)))] = hM at sM uM ⊢
      have kM := uM.at kT nT.1
      have GM : GrAt hM gT dT (p * timF l x) (sortI (rawL p l x y)) := ⟨uM.at GN.g nT.2.1, uM.at GN.d nT.2.2⟩
      generalize hL.length = iL
      rw [show W.tup [.int (p * timF l x), .tup (wI (sortI (rawL p l x y)))] = grW (p * timF l x, sortI (rawL p l x y)) from rfl]
      generalize p * timF l x = P' at *
      generalize sortI (rawL p l x y) = S' at *
      simp only [EV, EVS, EVR, EVX, idx_l0 kM, idx_l1 kM, told_told, isi_g GM, Bool.not_true]
      rw [show [W.int 0, W.int (-1), W.int 700, W.int (-3000)] = wI [0, -1, 700, -3000] from rfl, cRun_map (is := [0, -1, 700, -3000]) (fun i => .int (idxF P' S' i)) (show 4 ≤ SZ by decide) rfl fun i hi => by
        have hi : -1000000000000000000 ≤ i ∧ i ≤ 1000000000000000000 := by
          simp only [List.mem_cons, List.not_mem_nil, or_false] at hi
          omega
        simp only [EV, EVS, EVR, EVX, idx_l1 kM, methOf_ok GM.g T_m51, block_int GM OP hi.1 hi.2]]
      simp only [EV, EVS, EVR, EVX]
      have sA := sM.app (c := .lst ([0, -1, 700, -3000].map fun i => W.int (idxF P' S' i))) rfl
      have uA := uM.trans (Up.app (l := [.lst ([0, -1, 700, -3000].map fun i => W.int (idxF P' S' i))]))
      obtain ⟨hB, eB, sB, uB⟩ := cRun_grow (T := P.T) (cal := callN P (n + 19)) (e := ((Ex.call 32 (Exs.cons (Ex.var 11) (Exs.cons (Ex.var 13) Exs.nil))).idx (Ex.int 0))) (t := .name 13) (c := .none) (ws := [13]) (env := [some (W.ref r), some (W.ref g), some (grW (p, l)), some (W.int l.length),
                          some (W.int (0 + k)), some (W.int x), some (W.int y), some (W.int P'), some (W.ref tT),
                          some (W.ref iL), none, some (grW (P', S')), none, none, y14]) (g := none) (lb := false) (is := [0, -1, 700, -3000]) (h := hM ++ [.lst ([0, -1, 700, -3000].map fun i => W.int (idxF P' S' i))]) (fun i => .int (idxF P' S' i)) (fun h' => HSt r h' (N + 5 * ((k + 1 : Nat) : Int)) ∧ Up r (hM ++ [.lst ([0, -1, 700, -3000].map fun i => W.int (idxF P' S' i))]) h') (show 4 ≤ SZ by decide) (fun _ _ => rfl) (fun i _ h' j => by
          obtain ⟨a, l', ec, lb, ea⟩ := law_at2 (n := n + 17) (h := h') OP (x := i)
          exact ⟨h' ++ l', by simp only [EV, EVS, EVR, EVX, ec, idx_l0 ea], j.1.apps lb, j.2.trans Up.app⟩) ⟨sA, Up.rfl'⟩
      rw [show [W.int 0, W.int (-1), W.int 700, W.int (-3000)] = wI [0, -1, 700, -3000] from rfl, eB]
      have kA : (hM ++ [Cell.lst ([0, -1, 700, -3000].map fun i => W.int (idxF P' S' i))])[hM.length]? = some (.lst ([0, -1, 700, -3000].map fun i => W.int (idxF P' S' i))) := app_new
      have rM := sM.lt
      have kB := uB.at kA (by omega)
      simp only [EV, EVS, EVR, EVX]
      have sC := sB.app (c := .lst ([0, -1, 700, -3000].map fun i => W.int (idxF P' S' i))) rfl
      have sm := same5 (n := n + 8) (v := .lst ([0, -1, 700, -3000].map fun i => DV.int (idxF P' S' i))) sC.wf (d_lst (app_at kB) rfl (by simp)) (d_lst app_new rfl (by simp))
      rw [sm]
      have uC := ((uM.trans (Up.app (l := [.lst ([0, -1, 700, -3000].map fun i => W.int (idxF P' S' i))]))).trans uB).trans (Up.app (l := [.lst ([0, -1, 700, -3000].map fun i => W.int (idxF P' S' i))]))
      generalize hB ++ [Cell.lst ([0, -1, 700, -3000].map fun i => W.int (idxF P' S' i))] = hC at sC uC ⊢
      have kC := uC.at kT nT.1
      have GC : GrAt hC gT dT P' S' := ⟨uC.at GN.g nT.2.1, uC.at GN.d nT.2.2⟩
      simp only [EV, EVS, EVR, EVX, Bool.not_true]
      rw [show [W.int 0, W.int 1, W.int (-1), W.int 50] = wI [0, 1, -1, 50] from rfl, cRun_map (is := [0, 1, -1, 50]) (fun i => .tup [.int (lowF P' S' i), .int (lowF P' S' (i + 1))]) (show 4 ≤ SZ by decide) rfl fun i hi => by
        have hi : -1000000000000000 ≤ i ∧ i ≤ 1000000000000000 := by
          simp only [List.mem_cons, List.not_mem_nil, or_false] at hi
          omega
        simp only [EV, EVS, EVR, EVX, idx_l1 kC, methOf_ok GC.g T_m52, span_int GC OP hi.1 hi.2]]
      simp only [EV, EVS, EVR, EVX]
      have sD := sC.app (c := .lst ([0, 1, -1, 50].map fun i => W.tup [.int (lowF P' S' i), .int (lowF P' S' (i + 1))])) rfl
      obtain ⟨hE, eE, sE, uE⟩ := cRun_grow (T := P.T) (cal := callN P (n + 19)) (e := (Ex.bi Bi.tuple (Exs.cons (Ex.slc (Ex.call 33 (Exs.cons (Ex.var 11) (Exs.cons (Ex.var 10) Exs.nil))) (Cnd.some (Ex.int 1)) Cnd.none) Exs.nil))) (t := .name 10) (c := .none) (ws := [10]) (env := [some (W.ref r), some (W.ref g), some (grW (p, l)), some (W.int l.length),
                          some (W.int (0 + k)), some (W.int x), some (W.int y), some (W.int P'), some (W.ref tT),
                          some (W.ref iL), none, some (grW (P', S')), none, none, some (.ref hC.length)]) (g := none) (lb := false) (is := [0, 1, -1, 50]) (h := hC ++ [.lst ([0, 1, -1, 50].map fun i => W.tup [.int (lowF P' S' i), .int (lowF P' S' (i + 1))])]) (fun i => .tup [.int (lowF P' S' i), .int (lowF P' S' (i + 1))]) (fun h' => HSt r h' (N + 5 * ((k + 1 : Nat) : Int)) ∧ Up r (hC ++ [.lst ([0, 1, -1, 50].map fun i => W.tup [.int (lowF P' S' i), .int (lowF P' S' (i + 1))])]) h') (show 4 ≤ SZ by decide) (fun _ _ => rfl) (fun i _ h' j => by
          obtain ⟨a, l', ec, lb, ea⟩ := law_span2 (n := n + 18) (h := h') OP (x := i)
          have ss : sliceL (some 1) none [W.int i, .int (lowF P' S' i), .int (lowF P' S' (i + 1))] = [.int (lowF P' S' i), .int (lowF P' S' (i + 1))] := rfl
          exact ⟨h' ++ l' ++ [.lst [.int (lowF P' S' i), .int (lowF P' S' (i + 1))]], by simp only [EV, EVS, EVR, EVX, ec, oInt_int, slc_lst ea, ss, bi_tuple app_new], (j.1.apps lb).app rfl, (j.2.trans Up.app).trans Up.app⟩) ⟨sD, Up.rfl'⟩
      rw [show [W.int 0, W.int 1, W.int (-1), W.int 50] = wI [0, 1, -1, 50] from rfl, eE]
      have kD : (hC ++ [Cell.lst ([0, 1, -1, 50].map fun i => W.tup [.int (lowF P' S' i), .int (lowF P' S' (i + 1))])])[hC.length]? = some (.lst ([0, 1, -1, 50].map fun i => W.tup [.int (lowF P' S' i), .int (lowF P' S' (i + 1))])) := app_new
      have rC := sC.lt
      have kE := uE.at kD (by omega)
      simp only [EV, EVS, EVR, EVX]
      have sF := sE.app (c := .lst ([0, 1, -1, 50].map fun i => W.tup [.int (lowF P' S' i), .int (lowF P' S' (i + 1))])) rfl
      have sm2 := same5 (n := n + 8) (v := .lst ([0, 1, -1, 50].map fun i => DV.tup [.int (lowF P' S' i), .int (lowF P' S' (i + 1))])) sF.wf (d_lst (app_at kE) rfl (by simp)) (d_lst app_new rfl (by simp))
      rw [sm2]
      have uF := ((uC.trans (Up.app (l := [.lst ([0, 1, -1, 50].map fun i => W.tup [.int (lowF P' S' i), .int (lowF P' S' (i + 1))])]))).trans uE).trans (Up.app (l := [.lst ([0, 1, -1, 50].map fun i => W.tup [.int (lowF P' S' i), .int (lowF P' S' (i + 1))])]))
      generalize hE ++ [Cell.lst ([0, 1, -1, 50].map fun i => W.tup [.int (lowF P' S' i), .int (lowF P' S' (i + 1))])] = hF at sF uF ⊢
      have kF := uF.at kT nT.1
      have GF : GrAt hF gT dT P' S' := ⟨uF.at GN.g nT.2.1, uF.at GN.d nT.2.2⟩
      have fe := form_eq (n := n + 18) GF OP
      have fm := law_form_eq (n := n + 18) OP sF.wf
      have dF : ∃ v, drf 5 hF (grW (formF P' S')) = some v := by
        have fl : (formF P' S').2.length ≤ 1000000 := by
          have := OP.len
          unfold formF
          split
          · exact Nat.le_trans (List.length_filter_le _ _) (by omega)
          · show S'.length ≤ _; omega
        exact ⟨_, d_tup (m_cons rfl (m_cons (d_tup m_wI (by rw [wI_len]; exact fl)) m_nil)) (by simp)⟩
      obtain ⟨vF, dF⟩ := dF
      have sm3 := same5 (n := n + 8) sF.wf dF dF
      simp only [EV, EVS, EVR, EVX, Bool.not_true, idx_gr1, wI_len]
      cases decide ((S'.length : Int) < 100) with
      | true =>
        simp only [EV, EVS, EVR, EVX, idx_l1 kF, methOf_ok GF.g T_m53, fe, fm, sm3, Bool.not_true]
        exact ⟨_, _, rfl, _, _, _, _, _, _, _, _, rfl, sF, uT.trans uF⟩
      | false =>
        simp only [EV, EVS, EVR, EVX]
        exact ⟨_, _, rfl, _, _, _, _, _, _, _, _, rfl, sF, uT.trans uF⟩
    · have big1 : decide (3600 < p * timF l x) = true := by simp; omega
      simp only [EV, EVS, EVR, EVX, big1, ask0_large (n := n + 11) G5 O hx.1 hx.2 y0 (show y ≤ 23 by omega) hp (by omega), List.length_append, List.length_singleton, List.append_assoc, List.cons_append, List.nil_append]
      have s6 : HSt r (h5 ++ [.lst [sLar, .int (p * timF l x), .bl true], .lst [sLar, .int (p * timF l x), .bl true]]) (N + 5 * ((k + 1 : Nat) : Int)) := s5.apps rfl
      have sm := same5 (n := n + 8) (h := h5 ++ [.lst [sLar, .int (p * timF l x), .bl true], .lst [sLar, .int (p * timF l x), .bl true]]) (a := .ref h5.length) (c := .ref (h5.length + 1)) s6.wf (d_lst (app_0.trans rfl) (m_cons d_large (m_cons rfl (m_cons rfl m_nil))) (by simp)) (d_lst (app_k.trans rfl) (m_cons d_large (m_cons rfl (m_cons rfl m_nil))) (by simp))
      rw [← sLar, sm]
      simp only [EV, EVS, EVR, EVX, Bool.not_true]
      exact ⟨_, _, rfl, _, _, _, _, _, _, _, _, rfl, s6, U5.trans Up.app⟩
  · obtain ⟨y4, y5, y6, y7, y8, y9, y11, y14, rfl, s', u'⟩ := i
    simp only [EV, EVS, EVR, EVX]
    obtain ⟨z1, z2⟩ := cut_HSt (ws := [.bl true]) s' u' hr
    exact ⟨_, rfl, z1.mono (by rw [wI_len, iot_len, show (3 : Int).toNat = 3 from rfl]; omega), z2⟩
end
end K77
end

section
set_option Elab.async false
set_option linter.all false
set_option maxRecDepth 100000
set_option maxHeartbeats 8000000
/-! k77: drawn intervals. -/
namespace K77
open MP
section
variable {p q : Int} {l m : List Int} {h : Hs} {g d g2 d2 n r : Nat} {b : Bool} {N x y : Int} {w w2 w3 : W} {o : Option Nat}
theorem eE_chain3 {T : Tab} {cal : Nat → List W → Hs → R W} {env : Env} {a b e f : Ex} {c d k : Cm} : evE T cal (.chain3 a c b d e k f) env h = (evE T cal a env h).bnd (fun x h1 => (evE T cal b env h1).bnd (fun y h2 => (cmp2 h2 c x y).bnd (fun r h3 => r.tst ((evE T cal e env h3).bnd (fun z h4 => (cmp2 h4 d y z).bnd (fun q h5 => q.tst ((evE T cal f env h5).bnd (fun u h6 => cmp2 h6 k z u) .mk) (.ok (.bl false) h5)) .mk) .mk) (.ok (.bl false) h3)) .mk) .mk) .mk := by rw [evE]; rfl
theorem ex_g {r : R Fl} {k : Fl → Hs → R Fl} {d : Dm k} (Goal : R Fl → Prop) (Post : Fl → Hs → Prop) (h1 : ∃ fl h', r = .ok fl h' ∧ Post fl h') (h2 : ∀ fl h', Post fl h' → Goal (k fl h')) : Goal (r.bnd k d) := by
  obtain ⟨fl, h', e, po⟩ := h1
  rw [e]
  exact h2 fl h' po
theorem low_gap (O : GOk p l) (i : Int) : lowF p l (i + 1) ≤ lowF p l i + p := by
  have := low_add O i 1
  rw [Int.mul_one, Int.mul_one] at this
  have hl := O.len
  rcases Int.lt_or_eq_of_le (show i + 1 ≤ i + l.length by omega) with h | h
  · have := low_lt O h; omega
  · rw [h]; omega
theorem law_interval_ok (s : HSt r h N) (hN : N ≤ 990000) : ∃ x y h', callN P (n + 2) 27 [.ref r, .int (-60), .int 90] h = .ok (ivW x y) h' ∧ IvOk x y ∧ HSt r h' (N + 2) ∧ Up r h h' := by
  rw [c__law_interval, b__law_interval]
  have hr := s.lt
  obtain ⟨x1, h1, e1, x10, x11, s1, u1, n1⟩ := take76 (n := n) s (by omega) (show (1 : Int) ≤ 90 - -60 by decide) (by decide)
  obtain ⟨x2, h2, e2, x20, x21, s2, u2, n2⟩ := take76 (n := n) s1 (by omega) (show (1 : Int) ≤ 90 - (-60 + x1) by omega) (by omega)
  simp only [EV, EVS, EVR, EVX, e1, e2]
  obtain ⟨z1, z2⟩ := cut_HSt (ws := [ivW (-60 + x1) (-60 + x1 + 1 + x2)]) s2 (u1.trans u2) hr
  exact ⟨-60 + x1, -60 + x1 + 1 + x2, _, rfl, ⟨by omega, by omega, by omega⟩, z1.mono (by omega), z2⟩
theorem interval_of_ok (s : HSt r h N) (hN : N ≤ 900000) (O : GOk p l) (hp : p ≤ 360) : ∃ x y h', callN P (n + 5) 40 [.ref r, grW (p, l)] h = .ok (ivW x y) h' ∧ IvOk x y ∧ HSt r h' (N + 10) ∧ Up r h h' := by
  rw [c__law_interval_of, b__law_interval_of]
  have hr := s.lt
  obtain ⟨v, h1, e1, v0, v1, s1, u1, n1⟩ := take76 (n := n + 3) s (by omega) (show (1 : Int) ≤ 5 by decide) (by decide)
  obtain ⟨x2, h2, e2, x20, x21, s2, u2, n2⟩ := take76 (n := n + 3) s1 (by omega) (show (1 : Int) ≤ 9 by decide) (by decide)
  obtain ⟨a, l', ec, lb, ea⟩ := law_span2 (n := n + 3) (h := h2) O (x := x2 - 4)
  have ss : sliceL (some 1) none [W.int (x2 - 4), .int (lowF p l (x2 - 4)), .int (lowF p l (x2 - 4 + 1))] = [.int (lowF p l (x2 - 4)), .int (lowF p l (x2 - 4 + 1))] := rfl
  simp only [EV, EVS, EVR, EVX, e1, e2, ec, oInt_int, slc_lst ea, ss, asg_consL app_new]
  have s3 := (s2.apps lb).app (c := .lst [.int (lowF p l (x2 - 4)), .int (lowF p l (x2 - 4 + 1))]) rfl
  have u3 := ((u1.trans u2).trans (Up.app (l := l'))).trans (Up.app (l := [.lst [.int (lowF p l (x2 - 4)), .int (lowF p l (x2 - 4 + 1))]]))
  generalize h2 ++ l' ++ [Cell.lst [.int (lowF p l (x2 - 4)), .int (lowF p l (x2 - 4 + 1))]] = h3 at s3 u3 ⊢
  have gap := low_gap O (x2 - 4)
  generalize lowF p l (x2 - 4) = lo at gap ⊢
  generalize lowF p l (x2 - 4 + 1) = hi at gap ⊢
  refine ex_g (Goal := fun t => ∃ x y h', fin h.length t = .ok (ivW x y) h' ∧ IvOk x y ∧ HSt r h' (N + 10) ∧ Up r h h') (Post := fun fl h' => ∃ hi, fl = .next [some (.ref r), some (grW (p, l)), some (.int v), some (.int (x2 - 4)), some (.int lo), some (.int hi)] ∧ HSt r h' (N + 3) ∧ Up r h h') (tst_ex _ (fun hx => ?_) (fun hx => ⟨_, _, rfl, hi, rfl, s3.mono (by omega), u3⟩)) (fun fl h4 Hp => ?_)
  · simp only [EV, EVS, EVR, EVX, bi_max]
    have hm : 1 ≤ (if hi - lo > 1 then hi - lo else 1) ∧ (if hi - lo > 1 then hi - lo else 1) ≤ 360 := by split <;> omega
    generalize (if hi - lo > 1 then hi - lo else 1) = M at hm ⊢
    obtain ⟨x5, h5, e5, x50, x51, s5, u5, n5⟩ := take76 (n := n + 3) s3 (by omega) hm.1 (by omega)
    simp only [EV, EVS, EVR, EVX, e5]
    exact ⟨_, _, rfl, _, rfl, s5.mono (by omega), u3.trans u5⟩
  · obtain ⟨hi, rfl, s4, u4⟩ := Hp
    simp only [EV, EVS, EVR, EVX]
    refine ex_g (Goal := fun t => ∃ x y h', fin h.length t = .ok (ivW x y) h' ∧ IvOk x y ∧ HSt r h' (N + 10) ∧ Up r h h') (Post := fun fl h' => ∃ hi, fl = .next [some (.ref r), some (grW (p, l)), some (.int v), some (.int (x2 - 4)), some (.int lo), some (.int hi)] ∧ HSt r h' (N + 4) ∧ Up r h h') (tst_ex _ (fun hx => ?_) (fun hx => ⟨_, _, rfl, hi, rfl, s4.mono (by omega), u4⟩)) (fun fl h5 Hp => ?_)
    · obtain ⟨x5, h5, e5, x50, x51, s5, u5, n5⟩ := take76 (n := n + 3) s4 (by omega) (show (1 : Int) ≤ 3 by decide) (by decide)
      obtain ⟨a, l', ec, lb, ea⟩ := law_span2 (n := n + 3) (h := h5) O (x := x2 - 4 + x5)
      simp only [EV, EVS, EVR, EVX, e5, ec, idx_l2 ea]
      exact ⟨_, _, rfl, _, rfl, (s5.apps lb).mono (by omega), (u4.trans u5).trans Up.app⟩
    · obtain ⟨hi, rfl, s5, u5⟩ := Hp
      simp only [EV, EVS, EVR, EVX]
      refine ex_g (Goal := fun t => ∃ x y h', fin h.length t = .ok (ivW x y) h' ∧ IvOk x y ∧ HSt r h' (N + 10) ∧ Up r h h') (Post := fun fl h' => ∃ lo hi, fl = .next [some (.ref r), some (grW (p, l)), some (.int v), some (.int (x2 - 4)), some (.int lo), some (.int hi)] ∧ HSt r h' (N + 4) ∧ Up r h h') (tst_ex _ (fun hx => ?_) (fun hx => ⟨_, _, rfl, lo, hi, rfl, s5, u5⟩)) (fun fl h6 Hp => ?_)
      · obtain ⟨a, l', ec, lb, ea⟩ := law_span2 (n := n + 3) (h := h5) O (x := x2 - 4 + 1)
        simp only [EV, EVS, EVR, EVX, ec, idx_l2 ea]
        exact ⟨_, _, rfl, _, _, rfl, s5.apps lb, u5.trans Up.app⟩
      · obtain ⟨lo, hi, rfl, s6, u6⟩ := Hp
        simp only [EV, EVS, EVR, EVX, eE_chain3]
        cases hg : (decide (v = 0) || !(decide (-1001 < lo) && (decide (lo < hi) && decide (hi < 1001)))) with
        | true =>
          obtain ⟨x7, h7, e7, x70, x71, s7, u7, n7⟩ := take76 (n := n + 3) s6 (by omega) (show (1 : Int) ≤ 4 by decide) (by decide)
          simp only [EV, EVS, EVR, EVX, e7]
          cases h0 : decide (0 < x7) with
          | true =>
            obtain ⟨x, y, h8, e8, I, s8, u8⟩ := law_interval_ok (n := n + 2) s7 (by omega)
            simp only [EV, EVS, EVR, EVX, e8]
            obtain ⟨z1, z2⟩ := cut_HSt (ws := [ivW x y]) s8 ((u6.trans u7).trans u8) hr
            exact ⟨x, y, _, rfl, I, z1.mono (by omega), z2⟩
          | false =>
            have s8 := s7.app (c := .lst [.tup [.int (-1000), .int 1000], .tup [.int 999, .int 1000], .tup [.int (-1000), .int (-999)], .tup [.int (-1), .int 0]]) rfl
            obtain ⟨x9, h9, e9, x90, x91, s9, u9, n9⟩ := take76 (n := n + 3) s8 (by omega) (show (1 : Int) ≤ 4 by decide) (by decide)
            have r7 := s7.lt
            obtain ⟨wi, ei, x, y, rfl, I⟩ := pick (x := x9) (fun w => ∃ x y : Int, w = ivW x y ∧ IvOk x y) (u9.at (app_new (h := h7) (c := .lst [.tup [.int (-1000), .int 1000], .tup [.int 999, .int 1000], .tup [.int (-1000), .int (-999)], .tup [.int (-1), .int 0]])) (by omega)) x90 (by simpa using x91) (fun w hw => by
              simp only [List.mem_cons, List.not_mem_nil, or_false] at hw
              rcases hw with rfl | rfl | rfl | rfl <;> exact ⟨_, _, rfl, by decide, by decide, by decide⟩)
            simp only [EV, EVS, EVR, EVX, e9, ei]
            obtain ⟨z1, z2⟩ := cut_HSt (ws := [ivW x y]) s9 (((u6.trans u7).trans Up.app).trans u9) hr
            exact ⟨x, y, _, rfl, I, z1.mono (by omega), z2⟩
        | false =>
          simp only [Bool.or_eq_false_iff, Bool.not_eq_false', Bool.and_eq_true, decide_eq_true_eq] at hg
          simp only [EV, EVS, EVR, EVX]
          obtain ⟨z1, z2⟩ := cut_HSt (ws := [ivW lo hi]) s6 u6 hr
          exact ⟨lo, hi, _, rfl, ⟨by omega, by omega, by omega⟩, z1.mono (by omega), z2⟩
end
end K77
end

section
set_option Elab.async false
set_option linter.all false
set_option maxRecDepth 100000
set_option maxHeartbeats 8000000
/-! k77: rounded intervals are right. -/
namespace K77
open MP
section
variable {p q : Int} {l m : List Int} {h : Hs} {g d g2 d2 n r : Nat} {b : Bool} {N x y : Int} {w w2 w3 : W} {o : Option Nat}
theorem tst_int {c : Prop} [Decidable c] {i j : Int} : (W.bl (decide c)).tst (R.ok (W.int i) h) (R.ok (W.int j) h) = R.ok (.int (if c then i else j)) h := by
  by_cases z : c
  · rw [if_pos z]; simp only [z, decide_true]; rfl
  · rw [if_neg z]; simp only [z, decide_false]; rfl
theorem ex_forE {T : Tab} {cal : Nat → List W → Hs → R W} {wf : Nat} {t : Tg} {b : Sts} {g : Option (Nat × Cell)} {l : Bool} {all : List W} {env : Env} {h : Hs} {k : Fl → Hs → R Fl} {d : Dm k} {C : Env → Hs → Prop} (I : Nat → Env → Hs → Prop) (i : I 0 env h) (hg : ∀ k env h, I k env h → gOk g h = true)
    (step : ∀ k x env h, all[k]? = some x → I k env h → ∃ e1, asgTg h t x env = some e1 ∧ ∃ e2 h2, evSs T cal wf b e1 h = .ok (.next e2) h2 ∧ I (k + 1) e2 h2)
    (done : ∀ env' h', I all.length env' h' → ∃ e2 h2, k (.next env') h' = .ok (.next e2) h2 ∧ C e2 h2) : ∃ e2 h2, (fRun T cal wf t b env ⟨all, g, l⟩ h).bnd k d = .ok (.next e2) h2 ∧ C e2 h2 := by
  obtain ⟨e, h', e1, e2⟩ := fRun_ok (l := l) (wf := wf) (cal := cal) (T := T) (t := t) (b := b) I hg (fun k x env h a i => by
    obtain ⟨e1, ea, e2, h2, ef, i2⟩ := step k x env h a i
    exact ⟨e1, e2, h2, ea, ef, i2⟩) i
  rw [e1]
  exact done e h' e2
theorem isC_nt {w : W} : isCk false none h w = .ok (.bl (decide (w = .non) == false)) h := rfl
theorem rounded_right (s : HSt r h N) (hN : N ≤ 800000) (G : GrAt h g d p l) (O : GOk p l) (hp : p ≤ 360) (gr : g ≠ r) (dr : d ≠ r) : ∃ h', callN P (n + 20) 41 [.ref r, .ref g, grW (p, l)] h = .ok (.bl true) h' ∧ HSt r h' (N + 60) ∧ Up r h h' := by
  rw [c__law_rounded_right, b__law_rounded_right]
  have p1 := O.p1
  have hl := O.len
  have hr := s.lt
  simp only [EV, EVS, EVR, EVX]
  rw [rng1 (by decide) (by decide)]
  simp only [EV, EVS, EVR, EVX]
  refine ex_for (fun k env h' => ∃ y3 y4 y5 y6 y7 y8 y9 y10 y11 y12, env = [some (W.ref r), some (W.ref g), some (grW (p, l)), y3, y4, y5, y6, y7, y8, y9, y10, y11, y12] ∧ HSt r h' (N + 12 * k) ∧ Up r h h') ⟨_, _, _, _, _, _, _, _, _, _, rfl, s.mono (by omega), Up.rfl'⟩ (fun k env h' i => rfl) (fun k x env h' e i => ?_) (fun env' h' i => ?_)
  · obtain ⟨y3, y4, y5, y6, y7, y8, y9, y10, y11, y12, rfl, s', u'⟩ := i
    obtain rfl := iot_get e
    have hk := lt_of_get e
    rw [wI_len, iot_len, show (4 : Int).toNat = 4 from rfl] at hk
    refine ⟨_, rfl, ?_⟩
    obtain ⟨x, y, h1, e1, I, s1, u1⟩ := interval_of_ok (n := n + 14) s' (by omega) O hp
    obtain ⟨a, la, ea, ba, ka⟩ := law_at2 (n := n + 17) (h := h1) O (x := x)
    obtain ⟨c, lc, ec, bc, kc⟩ := law_at2 (n := n + 17) (h := h1 ++ la) O (x := y - 1)
    simp only [EV, EVS, EVR, EVX, e1, iv0, iv1, ea, ec]
    have s2 := (s1.apps ba).apps bc
    have u2 := ((u'.trans u1).trans (Up.app (l := la))).trans (Up.app (l := lc))
    replace ka := app_at (l := lc) ka
    generalize h1 ++ la ++ lc = h2 at s2 u2 ka kc ⊢
    have G2 : GrAt h2 g d p l := ⟨u2.at G.g gr, u2.at G.d dr⟩
    have in1 := inner_eq O x
    have ou1 := outer_eq O y
    have hW : ∀ h, (W.bl (decide (idxF p l (x - 1) + 1 ≤ idxF p l y - 1))).tst (R.ok (W.tup [.int (idxF p l (x - 1) + 1), .int (idxF p l y - 1)]) h) (R.ok W.non h) = R.ok (innW p l x y) h := fun h => by
      unfold innW
      by_cases c : idxF p l (x - 1) + 1 ≤ idxF p l y - 1
      · simp only [c, decide_true, if_true]; rfl
      · simp only [c, decide_false, if_false]; rfl
    simp only [EV, EVS, EVR, EVX, idx_l0 ka, idx_l1 ka, idx_l2 ka, idx_l0 kc, idx_l1 kc, idx_l2 kc, iv0, iv1, tst_int, ← in1, ← ou1, hW, isC_nt]
    refine ex_bndE (Post := fun fl hh => fl = .next [some (W.ref r), some (W.ref g), some (grW (p, l)), some (W.int (0 + k)), some (ivW x y), some (W.ref a), some (W.ref c), some (.int (idxF p l (x - 1) + 1)), some (.int (idxF p l y - 1)), some (innW p l x y), some (inW p l x y), y11, y12] ∧ HSt r hh (N + 12 * (k + 1)) ∧ Up r h2 hh) ?_ (fun fl h3 Hp => ?_)
    · by_cases cc : idxF p l (x - 1) + 1 ≤ idxF p l y - 1
      · have ew : innW p l x y = .tup [.int (idxF p l (x - 1) + 1), .int (idxF p l y - 1)] := if_pos cc
        have ei : inW p l x y = .tup [.int (lowF p l (idxF p l (x - 1) + 1)), .int (lowF p l (idxF p l y - 1 + 1))] := if_pos cc
        have nn : decide (W.tup [.int (idxF p l (x - 1) + 1), .int (idxF p l y - 1)] = W.non) = false := by simp
        obtain ⟨a3, l3, e3, b3, k3⟩ := law_span2 (n := n + 18) (h := h2) O (x := idxF p l (x - 1) + 1)
        obtain ⟨a4, l4, e4, b4, k4⟩ := law_span2 (n := n + 18) (h := h2 ++ l3) O (x := idxF p l y - 1)
        simp only [ew, ei, nn, beq_true, beq_false, Bool.not_false, EV, EVS, EVR, EVX, e3, idx_l1 k3, e4, idx_l2 k4]
        exact ⟨_, _, rfl, rfl, ((s2.apps b3).apps b4).mono (by omega), Up.app.trans Up.app⟩
      · have ew : innW p l x y = .non := if_neg cc
        have ei : inW p l x y = .non := if_neg cc
        simp only [ew, ei, decide_true, beq_false, Bool.not_true, EV, EVS, EVR, EVX]
        exact ⟨_, _, rfl, rfl, s2.mono (by omega), Up.rfl'⟩
    · obtain ⟨rfl, s3, u3⟩ := Hp
      have r2 := s2.lt
      have na : a ≠ r := fun z => by
        obtain ⟨_, c0, z1, z2⟩ := s2
        obtain ⟨a0, b0, q0, m0, z3, _⟩ := z2
        rw [← z, ka, z3] at z1
        cases z1
      have nc : c ≠ r := fun z => by
        obtain ⟨_, c0, z1, z2⟩ := s2
        obtain ⟨a0, b0, q0, m0, z3, _⟩ := z2
        rw [← z, kc, z3] at z1
        cases z1
      have ka3 := u3.at ka na
      have kc3 := u3.at kc nc
      have ka4 : ∀ l', (h3 ++ l')[a]? = _ := fun l' => app_at ka3
      have kc4 : ∀ l', (h3 ++ l')[c]? = _ := fun l' => app_at kc3
      simp only [EV, EVS, EVR, EVX, List.length_append, List.length_cons, List.length_nil, Nat.zero_add, Nat.reduceAdd, List.append_assoc, List.cons_append, List.nil_append, idx_l0 (ka4 _), idx_l1 (ka4 _), idx_l0 (kc4 _), idx_l2 (kc4 _), sz2]
      rw [← sTold]
      have G3 : GrAt h3 g d p l := ⟨u3.at G2.g gr, u3.at G2.d dr⟩
      have bI : ∀ k, (innW p l x y).bel k = true := fun k => by unfold innW; split <;> rfl
      have bJ : ∀ k, (inW p l x y).bel k = true := fun k => by unfold inW; split <;> rfl
      have dI : ∃ v, ∀ h, drf 3 h (innW p l x y) = some v := by
        unfold innW
        split
        · exact ⟨_, fun h => rfl⟩
        · exact ⟨_, fun h => rfl⟩
      have dJ : ∃ v, ∀ h, drf 3 h (inW p l x y) = some v := by
        unfold inW
        split
        · exact ⟨_, fun h => rfl⟩
        · exact ⟨_, fun h => rfl⟩
      obtain ⟨vI, dI⟩ := dI
      obtain ⟨vJ, dJ⟩ := dJ
      have tb : ∀ {w : W} {k : Nat}, w.bel k = true → (Cell.lst [sTold, w]).bel k = true := fun {w k} e => by simp [Cell.bel, W.bels, W.bel, sTold, e]
      have s4 : HSt r (h3 ++ [.lst [sTold, innW p l x y], .lst [sTold, .tup [.int (idxF p l x), .int (idxF p l (y - 1))]], .lst [sTold, .tup [.int (lowF p l (idxF p l x)), .int (lowF p l (idxF p l (y - 1) + 1))]], .lst [sTold, inW p l x y], .lst [.ref h3.length, .ref (h3.length + 1), .ref (h3.length + 2), .ref (h3.length + 3)]]) (N + 12 * ((k : Int) + 1)) := s3.apps (by
        simp only [List.all_cons, List.all_nil, tb (bI _), tb (bJ _), Bool.true_and, Bool.and_true]
        simp [Cell.bel, W.bels, W.bel, sTold])
      have q0 : (h3 ++ [Cell.lst [sTold, innW p l x y], .lst [sTold, .tup [.int (idxF p l x), .int (idxF p l (y - 1))]], .lst [sTold, .tup [.int (lowF p l (idxF p l x)), .int (lowF p l (idxF p l (y - 1) + 1))]], .lst [sTold, inW p l x y], .lst [.ref h3.length, .ref (h3.length + 1), .ref (h3.length + 2), .ref (h3.length + 3)]])[h3.length]? = some (.lst [sTold, innW p l x y]) := app_0.trans rfl
      have q1 : (h3 ++ [Cell.lst [sTold, innW p l x y], .lst [sTold, .tup [.int (idxF p l x), .int (idxF p l (y - 1))]], .lst [sTold, .tup [.int (lowF p l (idxF p l x)), .int (lowF p l (idxF p l (y - 1) + 1))]], .lst [sTold, inW p l x y], .lst [.ref h3.length, .ref (h3.length + 1), .ref (h3.length + 2), .ref (h3.length + 3)]])[h3.length + 1]? = some (.lst [sTold, .tup [.int (idxF p l x), .int (idxF p l (y - 1))]]) := app_k.trans rfl
      have q2 : (h3 ++ [Cell.lst [sTold, innW p l x y], .lst [sTold, .tup [.int (idxF p l x), .int (idxF p l (y - 1))]], .lst [sTold, .tup [.int (lowF p l (idxF p l x)), .int (lowF p l (idxF p l (y - 1) + 1))]], .lst [sTold, inW p l x y], .lst [.ref h3.length, .ref (h3.length + 1), .ref (h3.length + 2), .ref (h3.length + 3)]])[h3.length + 2]? = some (.lst [sTold, .tup [.int (lowF p l (idxF p l x)), .int (lowF p l (idxF p l (y - 1) + 1))]]) := app_k.trans rfl
      have q3 : (h3 ++ [Cell.lst [sTold, innW p l x y], .lst [sTold, .tup [.int (idxF p l x), .int (idxF p l (y - 1))]], .lst [sTold, .tup [.int (lowF p l (idxF p l x)), .int (lowF p l (idxF p l (y - 1) + 1))]], .lst [sTold, inW p l x y], .lst [.ref h3.length, .ref (h3.length + 1), .ref (h3.length + 2), .ref (h3.length + 3)]])[h3.length + 3]? = some (.lst [sTold, inW p l x y]) := app_k.trans rfl
      have q4 : (h3 ++ [Cell.lst [sTold, innW p l x y], .lst [sTold, .tup [.int (idxF p l x), .int (idxF p l (y - 1))]], .lst [sTold, .tup [.int (lowF p l (idxF p l x)), .int (lowF p l (idxF p l (y - 1) + 1))]], .lst [sTold, inW p l x y], .lst [.ref h3.length, .ref (h3.length + 1), .ref (h3.length + 2), .ref (h3.length + 3)]])[h3.length + 4]? = some (.lst [.ref h3.length, .ref (h3.length + 1), .ref (h3.length + 2), .ref (h3.length + 3)]) := app_k.trans rfl
      have u4 := u3.trans (Up.app (l := [Cell.lst [sTold, innW p l x y], .lst [sTold, .tup [.int (idxF p l x), .int (idxF p l (y - 1))]], .lst [sTold, .tup [.int (lowF p l (idxF p l x)), .int (lowF p l (idxF p l (y - 1) + 1))]], .lst [sTold, inW p l x y], .lst [.ref h3.length, .ref (h3.length + 1), .ref (h3.length + 2), .ref (h3.length + 3)]]))
      have G4 : GrAt (h3 ++ [Cell.lst [sTold, innW p l x y], .lst [sTold, .tup [.int (idxF p l x), .int (idxF p l (y - 1))]], .lst [sTold, .tup [.int (lowF p l (idxF p l x)), .int (lowF p l (idxF p l (y - 1) + 1))]], .lst [sTold, inW p l x y], .lst [.ref h3.length, .ref (h3.length + 1), .ref (h3.length + 2), .ref (h3.length + 3)]]) g d p l := G3.ext fun _ _ e => app_at e
      generalize h3 ++ [Cell.lst [sTold, innW p l x y], .lst [sTold, .tup [.int (idxF p l x), .int (idxF p l (y - 1))]], .lst [sTold, .tup [.int (lowF p l (idxF p l x)), .int (lowF p l (idxF p l (y - 1) + 1))]], .lst [sTold, inW p l x y], .lst [.ref h3.length, .ref (h3.length + 1), .ref (h3.length + 2), .ref (h3.length + 3)]] = h5 at s4 q0 q1 q2 q3 q4 u4 G4 ⊢
      generalize h3.length + 4 = i4 at q4 ⊢
      generalize h3.length + 3 = i3 at q3 q4 ⊢
      generalize h3.length + 2 = i2 at q2 q4 ⊢
      generalize h3.length + 1 = i1 at q1 q4 ⊢
      generalize h3.length = i0 at q0 q4 ⊢
      have GE : ∀ l', GrAt (h5 ++ l') g d p l := fun l' => G4.ext fun _ _ e => app_at e
      rw [rng1 (by decide) (by decide)]
      simp only [EV, EVS, EVR, EVX]
      refine ex_forE (fun k2 env hh => hh = h5 ∧ ∃ y12, env = [some (W.ref r), some (W.ref g), some (grW (p, l)), some (W.int (0 + k)), some (ivW x y),
                    some (W.ref a), some (W.ref c), some (W.int (idxF p l (x - 1) + 1)), some (W.int (idxF p l y - 1)),
                    some (innW p l x y), some (inW p l x y), some (W.ref i4), y12]) ⟨rfl, _, rfl⟩ (fun _ _ _ _ => rfl) (fun k2 x2 env hh e i => ?_) (fun env hh i => ?_)
      · obtain ⟨rfl, y12, rfl⟩ := i
        rcases k2 with _ | _ | _ | _ | k2
        · obtain rfl : x2 = .int 0 := by cases e; rfl
          refine ⟨_, rfl, ?_⟩
          have B := both_ok (n := n + 7) (w3 := .non) (dd := i0) s4.wf (fun b l' => ask1 (n := n + 12) (b := b) (GE l') O I) (bI _) (dI _) (d_lst q0 (m_cons d_told (m_cons (dI _) m_nil)) (by simp)) (lt_of_get q0)
          simp only [EV, EVS, EVR, EVX, idx_lst q4 (Int.le_refl 0) (show _ = some (W.ref i0) from rfl), show (1 : Int) + 0 = 1 from rfl, B, Bool.not_true]
          exact ⟨_, _, rfl, rfl, _, rfl⟩
        · obtain rfl : x2 = .int 1 := by cases e; rfl
          refine ⟨_, rfl, ?_⟩
          have B := both_ok (n := n + 7) (w3 := .non) (dd := i1) s4.wf (fun b l' => ask2 (n := n + 12) (b := b) (GE l') O I) rfl rfl (d_lst q1 (m_cons d_told (m_cons rfl m_nil)) (by simp)) (lt_of_get q1)
          simp only [EV, EVS, EVR, EVX, idx_lst q4 (show (0 : Int) ≤ 1 by decide) (show _ = some (W.ref i1) from rfl), show (1 : Int) + 1 = 2 from rfl, B, Bool.not_true]
          exact ⟨_, _, rfl, rfl, _, rfl⟩
        · obtain rfl : x2 = .int 2 := by cases e; rfl
          refine ⟨_, rfl, ?_⟩
          have B := both_ok (n := n + 7) (w3 := .non) (dd := i2) s4.wf (fun b l' => ask3 (n := n + 12) (b := b) (GE l') O I) rfl rfl (d_lst q2 (m_cons d_told (m_cons rfl m_nil)) (by simp)) (lt_of_get q2)
          simp only [EV, EVS, EVR, EVX, idx_lst q4 (show (0 : Int) ≤ 2 by decide) (show _ = some (W.ref i2) from rfl), show (1 : Int) + 2 = 3 from rfl, B, Bool.not_true]
          exact ⟨_, _, rfl, rfl, _, rfl⟩
        · obtain rfl : x2 = .int 3 := by cases e; rfl
          refine ⟨_, rfl, ?_⟩
          have B := both_ok (n := n + 7) (w3 := .non) (dd := i3) s4.wf (fun b l' => ask4 (n := n + 12) (b := b) (GE l') O I) (bJ _) (dJ _) (d_lst q3 (m_cons d_told (m_cons (dJ _) m_nil)) (by simp)) (lt_of_get q3)
          simp only [EV, EVS, EVR, EVX, idx_lst q4 (show (0 : Int) ≤ 3 by decide) (show _ = some (W.ref i3) from rfl), show (1 : Int) + 3 = 4 from rfl, B, Bool.not_true]
          exact ⟨_, _, rfl, rfl, _, rfl⟩
        · cases e
      · obtain ⟨rfl, y12, rfl⟩ := i
        simp only [EV, EVS, EVR, EVX]
        exact ⟨_, _, rfl, _, _, _, _, _, _, _, _, _, _, rfl, s4.mono (by omega), u2.trans u4⟩
  · obtain ⟨y3, y4, y5, y6, y7, y8, y9, y10, y11, y12, rfl, s', u'⟩ := i
    simp only [EV, EVS, EVR, EVX]
    obtain ⟨z1, z2⟩ := cut_HSt (ws := [.bl true]) s' u' hr
    exact ⟨_, rfl, z1.mono (by rw [wI_len, iot_len, show (4 : Int).toNat = 4 from rfl]; omega), z2⟩
end
end K77
end

section
set_option Elab.async false
set_option linter.all false
set_option maxRecDepth 100000
set_option maxHeartbeats 8000000
/-! k77: moves and lengths are right. -/
namespace K77
open MP
section
variable {p q : Int} {l m : List Int} {h : Hs} {g d g2 d2 n r : Nat} {b : Bool} {N x y : Int} {w w2 w3 : W} {o : Option Nat}
theorem moved_right (s : HSt r h N) (hN : N ≤ 800000) (G : GrAt h g d p l) (O : GOk p l) (gr : g ≠ r) (dr : d ≠ r) : ∃ h', callN P (n + 20) 42 [.ref r, .ref g, grW (p, l)] h = .ok (.bl true) h' ∧ HSt r h' (N + 60) ∧ Up r h h' := by
  rw [c__law_moved_right, b__law_moved_right]
  have p1 := O.p1
  have hl := O.len
  have hr := s.lt
  simp only [EV, EVS, EVR, EVX]
  rw [rng1 (by decide) (by decide)]
  simp only [EV, EVS, EVR, EVX]
  refine ex_for (fun k env h' => ∃ y3 y4 y5 y6 y7 y8 y9, env = [some (W.ref r), some (W.ref g), some (grW (p, l)), y3, y4, y5, y6, y7, y8, y9, none, none, none, none] ∧ HSt r h' (N + 12 * k) ∧ Up r h h') ⟨_, _, _, _, _, _, _, rfl, s.mono (by omega), Up.rfl'⟩ (fun k env h' i => rfl) (fun k x env h' e i => ?_) (fun env' h' i => ?_)
  · obtain ⟨y3, y4, y5, y6, y7, y8, y9, rfl, s', u'⟩ := i
    obtain rfl := iot_get e
    have hk := lt_of_get e
    rw [wI_len, iot_len, show (4 : Int).toNat = 4 from rfl] at hk
    refine ⟨_, rfl, ?_⟩
    simp only [EV, EVS, EVR, EVX]
    refine ex_bndE (Post := fun fl hh => ∃ x, fl = .next [some (W.ref r), some (W.ref g), some (grW (p, l)), some (.int (0 + k)), some (.int x), y5, y6, y7, y8, y9, none, none, none, none] ∧ (-1000000000000000000 ≤ x ∧ x ≤ 1000000000000000000) ∧ HSt r hh (N + 12 * k + 2) ∧ Up r h hh) ?_ (fun fl h3 Hp => ?_)
    · cases decide (0 < (0 + (k : Int))) with
      | true =>
        obtain ⟨x1, h1, e1, x10, x11, s1, u1, n1⟩ := take76 (n := n + 18) s' (by omega) (show (1 : Int) ≤ 400 by decide) (by decide)
        have s2 := s1.app (c := .lst [.int (x1 - 200), .int 1000000000000000000, .int (-1000000000000000000), .int 0]) rfl
        obtain ⟨x2, h2, e2, x20, x21, s3, u2, n2⟩ := take76 (n := n + 18) s2 (by omega) (show (1 : Int) ≤ 4 by decide) (by decide)
        have r1 := s1.lt
        obtain ⟨wx, ex, x, rfl, xb⟩ := pick (x := x2) (fun w => ∃ x : Int, w = .int x ∧ (-1000000000000000000 ≤ x ∧ x ≤ 1000000000000000000)) (u2.at (app_new (h := h1) (c := .lst [.int (x1 - 200), .int 1000000000000000000, .int (-1000000000000000000), .int 0])) (by omega)) x20 (by simpa using x21) (fun w hw => by
          simp only [List.mem_cons, List.not_mem_nil, or_false] at hw
          rcases hw with rfl | rfl | rfl | rfl <;> exact ⟨_, rfl, by omega, by omega⟩)
        simp only [EV, EVS, EVR, EVX, pw18, e1, e2, ex]
        exact ⟨_, _, rfl, _, rfl, xb, s3.mono (by omega), ((u'.trans u1).trans Up.app).trans u2⟩
      | false =>
        obtain ⟨x1, h1, e1, x10, x11, s1, u1, n1⟩ := take76 (n := n + 18) s' (by omega) (show (1 : Int) ≤ 90 by decide) (by decide)
        simp only [EV, EVS, EVR, EVX, e1]
        exact ⟨_, _, rfl, _, rfl, ⟨by omega, by omega⟩, s1.mono (by omega), u'.trans u1⟩
    · obtain ⟨x, rfl, xb, s3, u3⟩ := Hp
      simp only [EV, EVS, EVR, EVX]
      refine ex_bndE (Post := fun fl hh => ∃ y, fl = .next [some (W.ref r), some (W.ref g), some (grW (p, l)), some (.int (0 + k)), some (.int x), some (.int y), y6, y7, y8, y9, none, none, none, none] ∧ (-1000 ≤ y ∧ y ≤ 1000) ∧ HSt r hh (N + 12 * k + 4) ∧ Up r h hh) ?_ (fun fl h4 Hp => ?_)
      · cases decide (1 < (0 + (k : Int))) with
        | true =>
          obtain ⟨x1, h1, e1, x10, x11, s1, u1, n1⟩ := take76 (n := n + 18) s3 (by omega) (show (1 : Int) ≤ 11 by decide) (by decide)
          have s2 := s1.app (c := .lst [.int (x1 - 5), .int 1000, .int (-1000), .int 0]) rfl
          obtain ⟨x2, h2, e2, x20, x21, s4, u2, n2⟩ := take76 (n := n + 18) s2 (by omega) (show (1 : Int) ≤ 4 by decide) (by decide)
          have r1 := s1.lt
          obtain ⟨wx, ex, y, rfl, yb⟩ := pick (x := x2) (fun w => ∃ x : Int, w = .int x ∧ (-1000 ≤ x ∧ x ≤ 1000)) (u2.at (app_new (h := h1) (c := .lst [.int (x1 - 5), .int 1000, .int (-1000), .int 0])) (by omega)) x20 (by simpa using x21) (fun w hw => by
            simp only [List.mem_cons, List.not_mem_nil, or_false] at hw
            rcases hw with rfl | rfl | rfl | rfl <;> exact ⟨_, rfl, by omega, by omega⟩)
          simp only [EV, EVS, EVR, EVX, e1, e2, ex]
          exact ⟨_, _, rfl, _, rfl, yb, s4.mono (by omega), ((u3.trans u1).trans Up.app).trans u2⟩
        | false =>
          obtain ⟨x1, h1, e1, x10, x11, s1, u1, n1⟩ := take76 (n := n + 18) s3 (by omega) (show (1 : Int) ≤ 7 by decide) (by decide)
          simp only [EV, EVS, EVR, EVX, e1]
          exact ⟨_, _, rfl, _, rfl, ⟨by omega, by omega⟩, s1.mono (by omega), u3.trans u1⟩
      · obtain ⟨y, rfl, yb, s4, u4⟩ := Hp
        obtain ⟨a, la, ea, ba, ka⟩ := law_at2 (n := n + 17) (h := h4) O (x := x)
        obtain ⟨c, lc, ec, bc, kc⟩ := law_span2 (n := n + 18) (h := h4 ++ la) O (x := idxF p l x + y)
        simp only [EV, EVS, EVR, EVX, ea, asg_consL ka, ec, idx_l1 kc, idx_l2 kc, bi_min]
        have s5 := (s4.apps ba).apps bc
        have u5 := (u4.trans (Up.app (l := la))).trans (Up.app (l := lc))
        generalize h4 ++ la ++ lc = h5 at s5 u5 ⊢
        rw [← sTold, show (if lowF p l (idxF p l x + y + 1) - 1 < lowF p l (idxF p l x + y) + x - lowF p l (idxF p l x) then lowF p l (idxF p l x + y + 1) - 1 else lowF p l (idxF p l x + y) + x - lowF p l (idxF p l x)) = movF p l x y from rfl]
        have s6 := s5.app (c := .lst [sTold, .int (movF p l x y)]) rfl
        have u6 := u5.trans (Up.app (l := [.lst [sTold, .int (movF p l x y)]]))
        have G6 : GrAt (h5 ++ [.lst [sTold, .int (movF p l x y)]]) g d p l := ⟨u6.at G.g gr, u6.at G.d dr⟩
        have B := both_ok (n := n + 7) (w3 := .int y) (dd := h5.length) s6.wf (fun b l' => ask5 (n := n + 13) (b := b) (G6.ext fun _ _ e => app_at e) O xb.1 xb.2 yb.1 yb.2) rfl rfl (d_lst app_new (m_cons d_told (m_cons rfl m_nil)) (by simp)) (lt_of_get app_new)
        simp only [EV, EVS, EVR, EVX, B, Bool.not_true]
        exact ⟨_, _, rfl, _, _, _, _, _, _, _, rfl, s6.mono (by omega), u6⟩
  · obtain ⟨y3, y4, y5, y6, y7, y8, y9, rfl, s', u'⟩ := i
    have z : SZ = 16777216 := rfl
    simp only [EV, EVS, EVR, EVX, idx_gr1, wI_len]
    rw [rng1 (by omega) (by omega), show ((l.length : Nat) : Int).toNat = l.length by omega]
    simp only [EV, EVS, EVR, EVX]
    obtain ⟨hL, eL, sL, uL⟩ := cRun_grow (T := P.T) (cal := callN P (n + 19)) (e := (.op .sub (.idx (.call 33 (.cons (.var 2) (.cons (.var 11) .nil))) (.int 2)) (.idx (.call 33 (.cons (.var 2) (.cons (.var 11) .nil))) (.int 1)))) (t := .name 11) (c := .none) (ws := [11]) (env := [some (W.ref r), some (W.ref g), some (grW (p, l)), y3, y4, y5, y6, y7, y8, y9, none, none, none, none]) (g := none) (lb := false) (is := iot 0 l.length) (h := h') (fun k => .int (lowF p l (k + 1) - lowF p l k)) (fun hh => HSt r hh (N + 48) ∧ Up r h' hh) (by rw [iot_len]; omega) (fun _ _ => rfl) (fun i _ h2 j => by
      obtain ⟨a, la, ea, ba, ka⟩ := law_span2 (n := n + 18) (h := h2) O (x := i)
      obtain ⟨c, lc, ec, bc, kc⟩ := law_span2 (n := n + 18) (h := h2 ++ la) O (x := i)
      exact ⟨h2 ++ la ++ lc, by simp only [EV, EVS, EVR, EVX, ea, idx_l2 ka, ec, idx_l1 kc], (j.1.apps ba).apps bc, (j.2.trans Up.app).trans Up.app⟩) ⟨s'.mono (by rw [wI_len, iot_len, show (4 : Int).toNat = 4 from rfl]; omega), Up.rfl'⟩
    rw [show ((iot 0 l.length).map fun k => W.int (lowF p l (k + 1) - lowF p l k)) = wI (lensL p l) by unfold lensL wI; rw [List.map_map]; rfl] at eL
    rw [eL]
    have s7 := sL.app (c := .lst (wI (lensL p l))) wI_bel
    have u7 := (u'.trans uL).trans (Up.app (l := [.lst (wI (lensL p l))]))
    have k7 : (hL ++ [Cell.lst (wI (lensL p l))])[hL.length]? = some (.lst (wI (lensL p l))) := app_new
    simp only [EV, EVS, EVR, EVX]
    generalize hL ++ [Cell.lst (wI (lensL p l))] = h7 at s7 u7 k7 ⊢
    generalize hL.length = i7 at k7 ⊢
    have G7 : GrAt h7 g d p l := ⟨u7.at G.g gr, u7.at G.d dr⟩
    obtain ⟨j, ej1, ej2⟩ := longest_ok O
    have lln := lens_len (p := p) (l := l)
    have ne : lensL p l ≠ [] := by
      intro z
      rw [z] at lln
      simp at lln
      omega
    have su := sortU_le (lensL p l)
    have k8 : ∀ l', (h7 ++ l')[i7]? = some (.lst (wI (lensL p l))) := fun l' => app_at k7
    simp only [EV, EVS, EVR, EVX, pm1, steady_ok (n := n + 16) G7 O s7.wf, ej1 (n + 16) h7 g d G7 s7.wf, seq_lst (k8 _), sortS_wI (l := lensL p l) (by omega), lb_tuple, lb_max ne, bmK_ix (k8 _), ej2 _ _ (k8 _), List.length_append, List.length_cons, List.length_nil, Nat.zero_add, Nat.reduceAdd, List.append_assoc, List.cons_append, List.nil_append]
    have dS : ∀ hh, drf 4 hh (.tup (wI (sortU (lensL p l)))) = some (.tup ((sortU (lensL p l)).map .int)) := fun hh => d_tup m_wI (by rw [wI_len]; omega)
    have s9 : HSt r (h7 ++ [.lst [.tup (wI (sortU (lensL p l))), .tup (wI (sortU (lensL p l))), .int j, .int j], .lst [.tup (wI (sortU (lensL p l))), .tup (wI (sortU (lensL p l))), .int j, .int j]]) (N + 48) := s7.apps (by simp [Cell.bel, W.bels, W.bel, wI_bel])
    have sm := same5 (n := n + 8) (h := h7 ++ [.lst [.tup (wI (sortU (lensL p l))), .tup (wI (sortU (lensL p l))), .int j, .int j], .lst [.tup (wI (sortU (lensL p l))), .tup (wI (sortU (lensL p l))), .int j, .int j]]) (a := .ref h7.length) (c := .ref (h7.length + 1)) s9.wf (d_lst (app_0.trans rfl) (m_cons (dS _) (m_cons (dS _) (m_cons rfl (m_cons rfl m_nil)))) (by simp)) (d_lst (app_k.trans rfl) (m_cons (dS _) (m_cons (dS _) (m_cons rfl (m_cons rfl m_nil)))) (by simp))
    rw [sm]
    simp only [EV, EVS, EVR, EVX]
    obtain ⟨z1, z2⟩ := cut_HSt (ws := [.bl true]) s9 (u7.trans Up.app) hr
    exact ⟨_, rfl, z1.mono (by omega), z2⟩
end
end K77
end

section
set_option Elab.async false
set_option linter.all false
set_option maxRecDepth 100000
set_option maxHeartbeats 8000000
/-! k77: aligned blocks are right. -/
namespace K77
open MP
section
variable {p q : Int} {l m : List Int} {h : Hs} {g d g2 d2 n r : Nat} {b : Bool} {N x y : Int} {w w2 w3 : W} {o : Option Nat}
theorem pm01 {a c : W} : permI [0, 1] [a, c] = some [a, c] := rfl
theorem pw12 : op2 h .pow (.int 10) (.int 12) = .ok (.int 1000000000000) h := o_pow (by decide) (by decide) (by decide)
theorem slice1 {l : List Int} : sliceL none (some 1) (wI l) = wI (l.take 1) := by
  unfold sliceL wI
  rw [show HT.sIx (List.map W.int l).length 0 none = 0 from rfl, List.drop_zero]
  have := HT.sIx_nat (List.map W.int l).length (List.map W.int l).length 1
  rw [show ((1 : Nat) : Int) = 1 from rfl] at this
  rw [this, ← List.map_take]
  congr 1
  rw [List.length_map]
  cases l <;> simp
theorem cat_ok {is js : List Int} (z : is.length + js.length ≤ SZ) : catR ⟨wI is, none, true⟩ ⟨wI js, none, true⟩ h = .ok (wI (is ++ js)) h := by
  unfold catR
  have e : (gOk none h && (Sv.lst ⟨wI is, none, true⟩) && (Sv.lst ⟨wI js, none, true⟩) && decide ((wI is).length + (wI js).length ≤ SZ)) = true := by
    rw [wI_len, wI_len]
    simp [gOk, Sv.lst, z]
  dsimp only
  rw [if_pos e, wI_app]
theorem aligned_right (s : HSt r h N) (hN : N ≤ 800000) (O : GOk p l) (O2 : GOk q m) (h3 : p ≤ 360) (h4 : q ≤ 360) : ∃ h', callN P (n + 20) 43 [.ref r, grW (p, l), grW (q, m)] h = .ok (.bl true) h' ∧ HSt r h' (N + 20) ∧ Up r h h' := by
  rw [c__law_aligned_right, b__law_aligned_right]
  have p1 := O.p1
  have q1 := O2.p1
  have hr := s.lt
  have z : SZ = 16777216 := rfl
  obtain ⟨c1, c2⟩ := lcm_bd O.p1 O2.p1 h3 h4
  have M1 := mk_ok (n := n + 14) (h := h) O h3
  have M2 := mk_ok (n := n + 14) (h := h ++ [.ins 9 [(3, .int p), (4, .tup (wI l)), (0, .ref (h.length + 1))]] ++ [.dct (kvT l)]) O2 h4
  have b1 : (Cell.ins 9 [(3, .int p), (4, .tup (wI l)), (0, .ref (h.length + 1))]) = GINS (h.length + 1) p l := rfl
  rw [b1] at M1 M2
  simp only [List.append_assoc, List.cons_append, List.nil_append] at M1 M2
  have b2 : ∀ a, (Cell.ins 9 [(3, .int q), (4, .tup (wI m)), (0, .ref a)]) = GINS a q m := fun a => rfl
  rw [b2] at M2
  simp only [EV, EVS, EVR, EVX, idx_gr0, idx_gr1, M1, pm01, M2, common_int (show 0 < p by omega) (show 0 < q by omega) (show q < 100000 by omega) (show p < 100000 by omega)]
  have s1 := s.apps (l := [GINS (h.length + 1) p l, .dct (kvT l)]) (by simp [gins_bel, kvT_bel])
  have G1 := gr_new (p := p) (l := l) (a := 1) h [GINS (h.length + 1) p l, .dct (kvT l)] rfl rfl
  have u1 := Up.app (r := r) (h := h) (l := [GINS (h.length + 1) p l, .dct (kvT l)])
  rw [show h ++ [GINS (h.length + 1) p l, Cell.dct (kvT l), GINS ((h ++ [GINS (h.length + 1) p l, .dct (kvT l)]).length + 1) q m, .dct (kvT m)] = h ++ [GINS (h.length + 1) p l, .dct (kvT l)] ++ [GINS ((h ++ [GINS (h.length + 1) p l, .dct (kvT l)]).length + 1) q m, .dct (kvT m)] by simp]
  have r1 := s1.lt
  have n1 : h.length ≠ r ∧ h.length + 1 ≠ r := by omega
  generalize h ++ [GINS (h.length + 1) p l, .dct (kvT l)] = h1 at s1 G1 u1 r1 ⊢
  generalize h.length + 1 = dd1 at G1 n1 ⊢
  obtain ⟨g1, eg1⟩ : ∃ g, h.length = g := ⟨_, rfl⟩
  rw [eg1] at G1 n1 ⊢
  have s2 := s1.apps (l := [GINS (h1.length + 1) q m, .dct (kvT m)]) (by simp [gins_bel, kvT_bel])
  have G2 := gr_new (p := q) (l := m) (a := 1) h1 [GINS (h1.length + 1) q m, .dct (kvT m)] rfl rfl
  have u2 := u1.trans (Up.app (l := [GINS (h1.length + 1) q m, .dct (kvT m)]))
  have G1' : GrAt (h1 ++ [GINS (h1.length + 1) q m, .dct (kvT m)]) g1 dd1 p l := G1.ext fun _ _ e => app_at e
  have n2 : h1.length ≠ r ∧ h1.length + 1 ≠ r := by omega
  generalize h1 ++ [GINS (h1.length + 1) q m, .dct (kvT m)] = h2 at s2 G2 u2 G1' ⊢
  generalize h1.length + 1 = dd2 at G2 n2 ⊢
  generalize h1.length = g2 at G2 n2 ⊢
  by_cases big : lcmI p q ≤ 5000
  · have big1 : decide (5000 < lcmI p q) = false := by simp; omega
    simp only [EV, EVS, EVR, EVX, big1]
    rw [rng1 (by omega) (by omega)]
    simp only [EV, EVS, EVR, EVX]
    rw [cRun_filter (bothC p l q m) (by rw [iot_len]; omega) rfl fun x _ => by
      simp only [EV, EVS, EVR, EVX, o_mod (show 0 < p by omega), o_mod (show 0 < q by omega), in_tup, idx_gr0, idx_gr1, beq_true]
      rfl]
    simp only [EV, EVS, EVR, EVX]
    have s3 := s2.app (c := .lst (wI ((iot 0 (lcmI p q).toNat).filter (bothC p l q m)))) wI_bel
    have u3 := u2.trans (Up.app (l := [.lst (wI ((iot 0 (lcmI p q).toNat).filter (bothC p l q m)))]))
    have k3 : (h2 ++ [Cell.lst (wI ((iot 0 (lcmI p q).toNat).filter (bothC p l q m)))])[h2.length]? = some (.lst (wI ((iot 0 (lcmI p q).toNat).filter (bothC p l q m)))) := app_new
    have G13 : GrAt (h2 ++ [.lst (wI ((iot 0 (lcmI p q).toNat).filter (bothC p l q m)))]) g1 dd1 p l := G1'.ext fun _ _ e => app_at e
    have G23 : GrAt (h2 ++ [.lst (wI ((iot 0 (lcmI p q).toNat).filter (bothC p l q m)))]) g2 dd2 q m := G2.ext fun _ _ e => app_at e
    have n3 : h2.length ≠ r := by have := s2.lt; omega
    generalize h2 ++ [Cell.lst (wI ((iot 0 (lcmI p q).toNat).filter (bothC p l q m)))] = h3 at s3 u3 k3 G13 G23 ⊢
    generalize h2.length = i6 at k3 n3 ⊢
    have fl : ((iot 0 (lcmI p q).toNat).filter (bothC p l q m)).length ≤ 5000 := Nat.le_trans (List.length_filter_le _ _) (by rw [iot_len]; omega)
    rw [rng1 (by decide) (by decide)]
    simp only [EV, EVS, EVR, EVX]
    refine ex_for (fun k env hh => ∃ y8 y9 y10 y11 y12, env = [some (W.ref r), some (grW (p, l)), some (grW (q, m)), some (.ref g1), some (.ref g2), some (.int (lcmI p q)), some (.ref i6), none, y8, y9, y10, y11, y12] ∧ HSt r hh (N + 4 * k) ∧ Up r h3 hh) ⟨_, _, _, _, _, rfl, s3.mono (by omega), Up.rfl'⟩ (fun k env h' i => rfl) (fun k x env h' e i => ?_) (fun env' h' i => ?_)
    · obtain ⟨y8, y9, y10, y11, y12, rfl, s', u'⟩ := i
      obtain rfl := iot_get e
      have hk := lt_of_get e
      rw [wI_len, iot_len, show (3 : Int).toNat = 3 from rfl] at hk
      refine ⟨_, rfl, ?_⟩
      obtain ⟨x1, h5, e5, x10, x11, s5, u5, n5⟩ := take76 (n := n + 18) s' (by omega) (show (1 : Int) ≤ 300 by decide) (by decide)
      obtain ⟨x2, h6, e6, x20, x21, s6, u6, n6⟩ := take76 (n := n + 18) s5 (by omega) (show (1 : Int) ≤ 1000000000 by decide) (by decide)
      have s7 := s6.app (c := .lst [.int 0, .int x1, .int 1000000000000, .int (x2 * 999)]) rfl
      obtain ⟨x3, h8, e8, x30, x31, s8, u8, n8⟩ := take76 (n := n + 18) s7 (by omega) (show (1 : Int) ≤ 4 by decide) (by decide)
      have r6 := s6.lt
      obtain ⟨wx, ex, x, rfl, xb⟩ := pick (x := x3) (fun w => ∃ x : Int, w = .int x ∧ (0 ≤ x ∧ x ≤ 1000000000000)) (u8.at (app_new (h := h6) (c := .lst [.int 0, .int x1, .int 1000000000000, .int (x2 * 999)])) (by omega)) x30 (by simpa using x31) (fun w hw => by
        simp only [List.mem_cons, List.not_mem_nil, or_false] at hw
        rcases hw with rfl | rfl | rfl | rfl <;> exact ⟨_, rfl, by omega, by omega⟩)
      have u9 : Up r h3 h8 := (((u'.trans u5).trans u6).trans Up.app).trans u8
      have k8 := u9.at k3 n3
      simp only [EV, EVS, EVR, EVX, e5, pw12, pw9, e6, o_mulR (show (999 : Int).natAbs < 2 ^ 64 by decide), e8, ex, o_mod (show 0 < lcmI p q by omega), seq_lst k8, lockV_lst k8]
      rw [cRun_filter (fun v => decide (x % lcmI p q ≤ v)) (by omega) (gOk_some k8) fun v _ => by simp only [EV, EVS, EVR, EVX]]
      simp only [EV, EVS, EVR, EVX, oInt_int, slc_lst k8, slice1]
      rw [cRun_map (fun v => .int (v + lcmI p q)) (by rw [List.length_take]; omega) gOkN fun v _ => by simp only [EV, EVS, EVR, EVX]]
      rw [show ((((iot 0 (lcmI p q).toNat).filter (bothC p l q m)).take 1).map fun v => W.int (v + lcmI p q)) = wI ((((iot 0 (lcmI p q).toNat).filter (bothC p l q m)).take 1).map fun v => v + lcmI p q) by unfold wI; rw [List.map_map]; rfl]
      have cz : (((iot 0 (lcmI p q).toNat).filter (bothC p l q m)).filter fun v => decide (x % lcmI p q ≤ v)).length + ((((iot 0 (lcmI p q).toNat).filter (bothC p l q m)).take 1).map fun v => v + lcmI p q).length ≤ SZ := by
        rw [List.length_map, List.length_take]
        have := List.length_filter_le (fun v => decide (x % lcmI p q ≤ v)) ((iot 0 (lcmI p q).toNat).filter (bothC p l q m))
        omega
      have al := ali_law (l := l) (m := m) (x := x) O.p1 O2.p1 c1
      simp only [EV, EVS, EVR, EVX, cat_ok cz]
      rw [← laterL]
      have s9 := (s8.app (c := .lst (wI (((iot 0 (lcmI p q).toNat).filter (bothC p l q m)).take 1))) wI_bel).app (c := .lst (wI (laterL p l q m x))) wI_bel
      have u10 := (u9.trans (Up.app (l := [.lst (wI (((iot 0 (lcmI p q).toNat).filter (bothC p l q m)).take 1))]))).trans (Up.app (l := [.lst (wI (laterL p l q m x))]))
      have k9 : (h8 ++ [Cell.lst (wI (((iot 0 (lcmI p q).toNat).filter (bothC p l q m)).take 1))] ++ [Cell.lst (wI (laterL p l q m x))])[(h8 ++ [Cell.lst (wI (((iot 0 (lcmI p q).toNat).filter (bothC p l q m)).take 1))]).length]? = some (.lst (wI (laterL p l q m x))) := app_new
      generalize h8 ++ [Cell.lst (wI (((iot 0 (lcmI p q).toNat).filter (bothC p l q m)).take 1))] ++ [Cell.lst (wI (laterL p l q m x))] = h9 at s9 u10 k9 ⊢
      generalize (h8 ++ [Cell.lst (wI (((iot 0 (lcmI p q).toNat).filter (bothC p l q m)).take 1))]).length = i11 at k9 ⊢
      rw [eqS_nil (gOk_some k9)]
      have fin_ : ∀ v : W, v = optW (aliF p l q m x) → ∃ e2 h2, ((callN P (n + 19) 38 [.int 6, .ref g1, .ref g2, .int x, .ref h9.length] (h9 ++ [.lst [sTold, v]])) = .ok (.bl true) h2) ∧ h2 = h9 ++ [.lst [sTold, v]] ∧ e2 = x := fun v ev => by
        subst ev
        have s10 := s9.app (c := .lst [sTold, optW (aliF p l q m x)]) (by simp [Cell.bel, W.bels, W.bel, sTold, optW_bel])
        have u11 := u10.trans (Up.app (l := [.lst [sTold, optW (aliF p l q m x)]]))
        have GA : GrAt (h9 ++ [.lst [sTold, optW (aliF p l q m x)]]) g1 dd1 p l := ⟨u11.at G13.g n1.1, u11.at G13.d n1.2⟩
        have GB : GrAt (h9 ++ [.lst [sTold, optW (aliF p l q m x)]]) g2 dd2 q m := ⟨u11.at G23.g n2.1, u11.at G23.d n2.2⟩
        exact ⟨_, _, both_ok (n := n + 7) (w3 := .int x) (dd := h9.length) s10.wf (fun b l' => ask6 (n := n + 13) (b := b) (GA.ext fun _ _ e => app_at e) O (GB.ext fun _ _ e => app_at e) O2 xb.1 xb.2 big) optW_bel optW_drf (d_lst app_new (m_cons d_told (m_cons optW_drf m_nil)) (by simp)) (lt_of_get app_new), rfl, rfl⟩
      cases hl : laterL p l q m x with
      | nil =>
        rw [hl] at al
        obtain ⟨_, h2, e9, rfl, _⟩ := fin_ .non (by rw [al]; rfl)
        simp only [EV, EVS, EVR, EVX, decide_true, beq_false, Bool.not_true]
        rw [← sTold, e9]
        simp only [EV, EVS, EVR, EVX, Bool.not_true]
        exact ⟨_, _, rfl, _, _, _, _, _, rfl, (s9.app rfl).mono (by omega), u10.trans Up.app⟩
      | cons v t =>
        rw [hl] at al
        rw [hl, wI_cons] at k9
        have nd : decide (v :: t = ([] : List Int)) = false := by simp
        obtain ⟨_, h2, e9, rfl, _⟩ := fin_ (.int (x - x % lcmI p q + v)) (by rw [al]; rfl)
        simp only [EV, EVS, EVR, EVX, nd, beq_false, Bool.not_false, idx_l0 k9]
        rw [← sTold, e9]
        simp only [EV, EVS, EVR, EVX, Bool.not_true]
        exact ⟨_, _, rfl, _, _, _, _, _, rfl, (s9.app rfl).mono (by omega), u10.trans Up.app⟩
    · obtain ⟨y8, y9, y10, y11, y12, rfl, s', u'⟩ := i
      simp only [EV, EVS, EVR, EVX]
      obtain ⟨z1, z2⟩ := cut_HSt (ws := [.bl true]) s' (u3.trans u') hr
      rw [eg1] at z1 z2
      exact ⟨_, rfl, z1.mono (by rw [wI_len, iot_len, show (3 : Int).toNat = 3 from rfl]; omega), z2⟩
  · have big1 : decide (5000 < lcmI p q) = true := by simp; omega
    simp only [EV, EVS, EVR, EVX, big1]
    obtain ⟨z1, z2⟩ := cut_HSt (ws := [.bl true]) s2 u2 hr
    rw [eg1] at z1 z2
    exact ⟨_, rfl, z1.mono (by omega), z2⟩
end
end K77
end

section
set_option Elab.async false
set_option linter.all false
set_option maxRecDepth 100000
set_option maxHeartbeats 8000000
/-! k77: what is refused is refused with the very value. -/
namespace K77
open MP
section
variable {p q : Int} {l m : List Int} {h : Hs} {g d g2 d2 n r : Nat} {b : Bool} {N x y : Int} {w w2 w3 : W} {o : Option Nat}
inductive BIv : W → Prop
  | flat (w : W) (f : Fl1 w) : BIv w
  | ref (q : Nat) : BIv (.ref q)
  | len (ws : List W) (e : decide ((ws.length : Int) = 2) = false) : BIv (.tup ws)
  | fst (a c : W) (f : Fl1 a) (e : NotB (-1000) 1000 a) : BIv (.tup [a, c])
  | snd (a : Int) (c : W) (h1 : -1000 ≤ a) (h2 : a ≤ 1000) (f : Fl1 c) (e : NotB (a + 1) 1000 c) : BIv (.tup [.int a, c])
theorem known_nt (e : isTy h P.T .tuple w = some false) : callN P (n + 3) 10 [w, .int (-1000), .int 1000] h = .ok (.bl false) h := by
  rw [c_is_known, b_is_known]
  simp only [EV, EVS, EVR, EVX, bi_isi e, Bool.not_false]
theorem known_bad (dd : Odd o h w) (bi : BIv w) : callN P (n + 3) 10 [w, .int (-1000), .int 1000] h = .ok (.bl false) h := by
  cases bi with
  | flat _ f =>
    refine known_nt ?_
    cases f <;> rfl
  | ref q =>
    refine known_nt ?_
    cases dd with
    | lst g f z => exact ty_lst g
    | dct g => exact ty_dct g
    | flat f => cases f
  | len ws e =>
    rw [c_is_known, b_is_known]
    simp only [EV, EVS, EVR, EVX, bi_isi (show isTy h P.T .tuple (.tup ws) = some true from rfl), Bool.not_true, e, Bool.not_false]
  | fst a c f e =>
    rw [c_is_known, b_is_known]
    have t2 : decide (((([a, c] : List W).length : Nat) : Int) = 2) = true := rfl
    simp only [EV, EVS, EVR, EVX, bi_isi (show isTy h P.T .tuple (.tup [a, c]) = some true from rfl), Bool.not_true, t2, odd_between (n := n) (h := h) (.flat f) e, Bool.not_false]
  | snd a c h1 h2 f e =>
    rw [c_is_known, b_is_known]
    have t2 : decide (((([.int a, c] : List W).length : Nat) : Int) = 2) = true := rfl
    have e1 : decide (-1000 ≤ a) = true := by simpa using h1
    have e2 : decide (a ≤ 1000) = true := by simpa using h2
    simp only [EV, EVS, EVR, EVX, bi_isi (show isTy h P.T .tuple (.tup [.int a, c]) = some true from rfl), Bool.not_true, t2, is_between_int, e1, e2, Bool.and_true, odd_between (n := n) (h := h) (.flat f) e]
theorem row_pick2 (s : HSt r h N) (hN : N ≤ 1000000) {c0 : List W} {mm : Int} {ws : List W} (hc : ∀ w ∈ c0, Fl1 w) (hb : W.bels (h.length + 2) ws = true) (hl : (ws.length : Int) = mm) (m1 : 1 ≤ mm) (m2 : mm < 1073741824) (Q : W → Prop)
    (q : ∀ h2 : Hs, h2[h.length]? = some (.lst c0) → h2[h.length + 1]? = some (.dct []) → ∀ w ∈ ws, ∃ o, Odd o h2 w ∧ Q w ∧ ∀ q, o = some q → h.length ≤ q ∧ q < h.length + 2) :
    ∃ x h2 w o, callN P (n + 1) 25 [.ref r, .int mm] (h ++ [.lst c0] ++ [.dct []] ++ [.lst ws]) = .ok (.int x) h2 ∧ idx2 h2 (.ref (h ++ [Cell.lst c0] ++ [Cell.dct []]).length) (.int x) = .ok w h2 ∧ HSt r h2 (N + 1) ∧ Up r h h2 ∧ Odd o h2 w ∧ Q w ∧ ∀ q, o = some q → h.length ≤ q ∧ q < h2.length := by
  have hr := s.lt
  have sX := ((s.app (c := .lst c0) (fls_bel hc)).app (c := .dct []) rfl).app (c := .lst ws) ((bel_mono (by simp)).2 _ hb)
  have uX := ((Up.app (r := r) (h := h) (l := [.lst c0])).trans (Up.app (l := [.dct []]))).trans (Up.app (l := [.lst ws]))
  obtain ⟨x, h2, e2, x0, x1, s2, u2, n2⟩ := take76 (n := n) sX (by omega) m1 m2
  have lx : (h ++ [Cell.lst c0] ++ [Cell.dct []]).length = h.length + 2 := by simp
  have l1 : (h ++ [Cell.lst c0]).length = h.length + 1 := by simp
  have k0 : h2[h.length]? = some (.lst c0) := u2.at (app_at (app_at app_new)) (by omega)
  have k1 : h2[h.length + 1]? = some (.dct []) := by
    rw [← l1]
    exact u2.at (app_at app_new) (by omega)
  have k3 : h2[(h ++ [Cell.lst c0] ++ [Cell.dct []]).length]? = some (.lst ws) := u2.at app_new (by omega)
  have hl2 : h2.length = h.length + 3 := by rw [n2]; simp
  obtain ⟨w, ew, o, dd, qw, qq⟩ := pick (x := x) (fun w => ∃ o, Odd o h2 w ∧ Q w ∧ ∀ q, o = some q → h.length ≤ q ∧ q < h.length + 2) k3 x0 (by omega) (q h2 k0 k1)
  exact ⟨x, h2, w, o, e2, ew, s2, uX.trans u2, dd, qw, fun q e => by have := qq q e; omega⟩
def odds (h : Hs) : List W := [.non, .int 5, .str (PySem.Str.ofString "0-3"), .tup [.int 3, .int 3], .tup [.int 4, .int 2], .tup [.int (-1001), .int 3], .tup [.int 0, .int 1001], .tup [.int 1, .int 2, .int 3], .ref h.length, .tup [.bl true, .int 4], .ref (h ++ [Cell.lst [.int 1, .int 4]]).length, .tup [.non, .int 3]]
theorem fstr03 : Fl1 (.str (PySem.Str.ofString "0-3")) := .str _ (by decide +kernel) (by decide +kernel)
theorem three_fl {w v u x : W} (f : Fl1 w) (g : Fl1 v) (k : Fl1 u) (hx : x ∈ [w, v, u]) : Fl1 x := by
  simp only [List.mem_cons, List.not_mem_nil, or_false] at hx
  rcases hx with rfl | rfl | rfl
  · exact f
  · exact g
  · exact k
theorem odds_ok {h2 : Hs} (k0 : h2[h.length]? = some (.lst [.int 1, .int 4])) (k1 : h2[h.length + 1]? = some (.dct [])) : ∀ w ∈ odds h, ∃ o, Odd o h2 w ∧ BIv w ∧ ∀ q, o = some q → h.length ≤ q ∧ q < h.length + 2 := fun w hw => by
  have l1 : (h ++ [Cell.lst [.int 1, .int 4]]).length = h.length + 1 := by simp
  unfold odds at hw
  rw [l1] at hw
  simp only [List.mem_cons, List.not_mem_nil, or_false] at hw
  rcases hw with rfl | rfl | rfl | rfl | rfl | rfl | rfl | rfl | rfl | rfl | rfl | rfl
  · exact ⟨none, .flat .non, .flat _ .non, (fun _ e => by cases e)⟩
  · exact ⟨none, .flat (.int _), .flat _ (.int _), (fun _ e => by cases e)⟩
  · exact ⟨none, .flat fstr03, .flat _ fstr03, (fun _ e => by cases e)⟩
  · exact ⟨none, .tup (fun w hw => two_fl (.int _) (.int _) hw) (by simp), .snd 3 _ (by decide) (by decide) (.int _) (nbI (by decide)), (fun _ e => by cases e)⟩
  · exact ⟨none, .tup (fun w hw => two_fl (.int _) (.int _) hw) (by simp), .snd 4 _ (by decide) (by decide) (.int _) (nbI (by decide)), (fun _ e => by cases e)⟩
  · exact ⟨none, .tup (fun w hw => two_fl (.int _) (.int _) hw) (by simp), .fst _ _ (.int _) (nbI (by decide)), (fun _ e => by cases e)⟩
  · exact ⟨none, .tup (fun w hw => two_fl (.int _) (.int _) hw) (by simp), .snd 0 _ (by decide) (by decide) (.int _) (nbI (by decide)), (fun _ e => by cases e)⟩
  · exact ⟨none, .tup (fun w hw => three_fl (.int _) (.int _) (.int _) hw) (by simp), .len _ rfl, (fun _ e => by cases e)⟩
  · exact ⟨some _, .lst k0 (fun w hw => two_fl (.int _) (.int _) hw) (by simp), .ref _, (fun q e => by cases e; omega)⟩
  · exact ⟨none, .tup (fun w hw => two_fl (.bl _) (.int _) hw) (by simp), .fst _ _ (.bl _) (fun _ e => by cases e), (fun _ e => by cases e)⟩
  · exact ⟨some _, .dct k1, .ref _, (fun q e => by cases e; omega)⟩
  · exact ⟨none, .tup (fun w hw => two_fl .non (.int _) hw) (by simp), .fst _ _ .non (fun _ e => by cases e), (fun _ e => by cases e)⟩
theorem odds_bel : W.bels (h.length + 2) (odds h) = true := by simp [odds, W.bels, W.bel]
theorem fNum : Fl1 sNum := .str _ (by decide +kernel) (by decide +kernel)
theorem fFir : Fl1 sFir := .str _ (by decide +kernel) (by decide +kernel)
theorem fInt : Fl1 sInt := .str _ (by decide +kernel) (by decide +kernel)
theorem fBlo : Fl1 sBlo := .str _ (by decide +kernel) (by decide +kernel)
/-- an error that was told keeps its value -/
theorem keep_one {word : PySem.Str} {sw : W} {h0 h : Hs} (fw : Fl1 sw) (s : HSt r h N) (u : Up r h0 h) (dd : Odd o h w) (hq : ∀ q, o = some q → h0.length ≤ q) (hr : r < h0.length) (es : sw = .str word) :
    ∃ h', callN P (n + 13) 30 [.ref h.length, sw, w] (h ++ [.lst [sw, w, .bl true]]) = .ok (.bl true) h' ∧ HSt r h' N ∧ Up r h0 h' ∧ UpO o h h' := by
  subst es
  have s6 := s.app (c := .lst [.str word, w, .bl true]) (by
    have := (bel_mono (Nat.le_add_right _ 1)).1 _ dd.bel
    simp [Cell.bel, W.bels, W.bel, this])
  obtain ⟨h', e, uo, wf⟩ := kept76 (n := n) fw (app_new (h := h) (c := .lst [.str word, w, .bl true])) dd.app s6.wf
  exact ⟨h', e, s6.offO uo (fun e => by have := hq r e; omega) wf, (u.trans Up.app).offO uo hq, UpO.app.trans uo⟩
end
end K77
end

section
set_option Elab.async false
set_option linter.all false
set_option maxRecDepth 100000
set_option maxHeartbeats 8000000
/-! k77: all that is refused. -/
namespace K77
open MP
section
variable {p q : Int} {l m : List Int} {h : Hs} {g d g2 d2 n r : Nat} {b : Bool} {N x y : Int} {w w2 w3 : W} {o : Option Nat}
/-- a copy or another value, drawn -/
theorem copy_pick (s : HSt r h N) (hN : N ≤ 990000) (dO : Odd o h w) : ∃ (v : W) (l' : Hs) (x : Int) (h5 : Hs) (v5 : W), callN P (n + 2) 28 [w] h = .ok v (h ++ l') ∧ callN P (n + 2) 25 [.ref r, .int 2] (h ++ l' ++ [.lst [v, .int 0]]) = .ok (.int x) h5 ∧ idx2 h5 (.ref (h ++ l').length) (.int x) = .ok v5 h5 ∧ HSt r h5 (N + 1) ∧ Up r h h5 := by
  obtain ⟨v, l', ec, lb, vb⟩ := copy76 (n := n) dO s.wf
  have hr := s.lt
  have sc := (s.apps lb).app (c := .lst [v, .int 0]) (by simp [Cell.bel, W.bels, W.bel]; exact (bel_mono (Nat.le_succ _)).1 _ vb)
  obtain ⟨x5, h5, e5, x50, x51, s5, u5, n5⟩ := take76 (n := n + 1) sc (by omega) (show (1 : Int) ≤ 2 by decide) (by decide)
  have nc : (h ++ l').length ≠ r := by rw [List.length_append]; omega
  obtain ⟨v5, ev, _⟩ := pick (x := x5) (fun _ => True) (u5.at (app_new (h := h ++ l') (c := .lst [v, .int 0])) nc) x50 (by simpa using x51) (fun _ _ => trivial)
  exact ⟨v, l', x5, h5, v5, ec, e5, ev, s5, (Up.app.trans Up.app).trans u5⟩
theorem refused_right (s : HSt r h N) (hN : N ≤ 800000) (O : GOk p l) (h3 : p ≤ 360) : ∃ h', callN P (n + 20) 44 [.ref r, grW (p, l)] h = .ok (.bl true) h' ∧ HSt r h' (N + 60) ∧ Up r h h' := by
  rw [c__law_refused_right, b__law_refused_right]
  have hr := s.lt
  have p1 := O.p1
  have M1 := mk_ok (n := n + 14) (h := h) O h3
  rw [show (Cell.ins 9 [(3, .int p), (4, .tup (wI l)), (0, .ref (h.length + 1))]) = GINS (h.length + 1) p l from rfl] at M1
  simp only [List.append_assoc, List.cons_append, List.nil_append] at M1
  have s0 : HSt r (h ++ [GINS (h.length + 1) p l, .dct (kvT l)]) N := s.apps (by simp [gins_bel, kvT_bel])
  have u0 := Up.app (r := r) (h := h) (l := [GINS (h.length + 1) p l, .dct (kvT l)])
  obtain ⟨x1, h1, e1, x10, x11, s1, u1, n1⟩ := take76 (n := n + 18) s0 (by omega) (show (1 : Int) ≤ 2 by decide) (by decide)
  simp only [EV, EVS, EVR, EVX, idx_gr0, idx_gr1, M1, e1]
  have U1 := u0.trans u1
  generalize decide (x1 = 0) = nm
  obtain ⟨g, eg⟩ : ∃ g, h.length = g := ⟨_, rfl⟩
  have hr1 := s1.lt
  rw [rng1 (by decide) (by decide)]
  simp only [EV, EVS, EVR, EVX, eg]
  refine ex_for (fun k env h' => ∃ y4 y5 y6 y7, env = [some (W.ref r), some (grW (p, l)), some (W.ref g), some (W.bl nm), y4, y5, y6, y7] ∧ HSt r h' (N + 1 + 20 * k) ∧ Up r h1 h') ⟨_, _, _, _, rfl, s1.mono (by omega), Up.rfl'⟩ (fun k env h' i => rfl) (fun k x env h' e i => ?_) (fun env' h' i => ?_)
  · obtain ⟨y4, y5, y6, y7, rfl, s', u'⟩ := i
    obtain rfl := iot_get e
    have hk := lt_of_get e
    rw [wI_len, iot_len, show (2 : Int).toNat = 2 from rfl] at hk
    refine ⟨_, rfl, ?_⟩
    have L1 := u'.len
    obtain ⟨wb, ob, h2, e2, s2, u2, db, nb, qb⟩ := no_number (n := n + 17) s' (by omega) (lo := 1) (hi := 24) (by decide) (by decide) (by decide)
    obtain ⟨wo, oo, h3, e3, s3, u3, dO, no, qo⟩ := no_number (n := n + 17) s2 (by omega) (lo := 0) (hi := 23) (by decide) (by decide) (by decide)
    have L2 := u2.len
    have nbr : ob ≠ some r := fun e => by have := qb r e; omega
    have nor : oo ≠ some r := fun e => by have := qo r e; omega
    obtain ⟨v, l', x5, h5, v5, ec, e5, ev, s5, u5⟩ := copy_pick (n := n + 17) s3 (by omega) dO
    have db5 := (db.up u3 nbr).up u5 nbr
    have do5 := dO.up u5 nor
    have U5 : Up r h1 h5 := ((u'.trans u2).trans u3).trans u5
    have A0 := fun b v => ask0_num (n := n + 11) (b := b) (g := g) (w2 := v) (odd_between (n := n + 15) db5 nb)
    obtain ⟨h6, e6, s6, U6, o6⟩ := keep_one (n := n + 6) fNum s5 U5 db5 (fun q e => by have := qb q e; omega) hr1 rfl
    have do6 : Odd oo h6 wo := do5.upO o6 (fun q e z => by have h1 := qb q z; have h2 := qo q e; omega)
    have A1 := fun b => ask0_first (n := n + 11) (b := b) (g := g) (x := 1) (by decide) (by decide) (odd_between (n := n + 15) do6 no)
    obtain ⟨h7, e7, s7, U7, o7⟩ := keep_one (n := n + 6) fFir s6 U6 do6 (fun q e => by have := qo q e; omega) hr1 rfl
    simp only [EV, EVS, EVR, EVX, e2, e3, ec, e5, ev, A0]
    rw [← sNum]
    rw [e6]
    simp only [EV, EVS, EVR, EVX, Bool.not_true, A1]
    rw [← sFir]
    rw [e7]
    simp only [EV, EVS, EVR, EVX, Bool.not_true]
    rw [rng2 (by decide) (by decide) (by decide) (by decide) (by decide)]
    simp only [EV, EVS, EVR, EVX]
    refine ex_forE (fun k2 env hh => ∃ y6 y7, env = [some (W.ref r), some (grW (p, l)), some (W.ref g), some (W.bl nm), some (.int (0 + k)), some wb, y6, y7] ∧ HSt r hh (N + 1 + 20 * k + 3 + k2) ∧ Up r h1 hh) ⟨_, _, rfl, s7.mono (by omega), U7⟩ (fun _ _ _ _ => rfl) (fun k2 x2 env hh e i => ?_) (fun env hh i => ?_)
    · obtain ⟨y6, y7, rfl, s8, U8⟩ := i
      obtain rfl := iot_get e
      have hk2 := lt_of_get e
      rw [wI_len, iot_len, show ((5 : Int) - 1).toNat = 4 from rfl] at hk2
      refine ⟨_, rfl, ?_⟩
      have L8 := U8.len
      obtain ⟨xi, h9, wi, oi, ei1, ei2, s9, u9, di, bi, qi⟩ := row_pick2 (n := n + 18) s8 (by omega) (c0 := [.int 1, .int 4]) (fun w hw => two_fl (.int _) (.int _) hw) odds_bel (mm := 12) rfl (by decide) (by decide) BIv (fun h2 k0 k1 => odds_ok k0 k1)
      unfold odds at ei1
      have A2 := fun b => ask_iv (n := n + 13) (b := b) (w2 := .ref g) (v := 1 + (k2 : Int)) (by omega) (known_bad (n := n + 13) di bi)
      obtain ⟨h10, e10, s10, U10, o10⟩ := keep_one (n := n + 6) fInt s9 (U8.trans u9) di (fun q e => by have := qi q e; omega) hr1 rfl
      simp only [EV, EVS, EVR, EVX, ei1, ei2, A2]
      rw [← sInt]
      rw [e10]
      simp only [EV, EVS, EVR, EVX, Bool.not_true]
      exact ⟨_, _, rfl, _, _, rfl, s10.mono (by omega), U10⟩
    · obtain ⟨y6, y7, rfl, s8, U8⟩ := i
      rw [wI_len, iot_len, show ((5 : Int) - 1).toNat = 4 from rfl] at s8
      have L8 := U8.len
      obtain ⟨wc, oc, h9, e9, s9, u9, dc, nc, qc⟩ := no_number (n := n + 17) s8 (by omega) (lo := -1000000000000000000) (hi := 1000000000000000000) (by decide) (by decide) (by decide)
      obtain ⟨wd, od, h10, e10, s10, u10, dd, nd, qd⟩ := no_number (n := n + 17) s9 (by omega) (lo := -1000) (hi := 1000) (by decide) (by decide) (by decide)
      have L9 := u9.len
      have ncr : oc ≠ some r := fun e => by have := qc r e; omega
      have ndr : od ≠ some r := fun e => by have := qd r e; omega
      obtain ⟨v2, l2, x6, h11, v6, ec2, e11, ev2, s11, u11⟩ := copy_pick (n := n + 17) s10 (by omega) dd
      have dc11 := (dc.up u10 ncr).up u11 ncr
      have dd11 := dd.up u11 ndr
      have U11 : Up r h1 h11 := ((U8.trans u9).trans u10).trans u11
      have B0 := fun b v => ask5_num (n := n + 14) (b := b) (g := g) (w2 := v) (odd_between (n := n + 14) dc11 nc)
      obtain ⟨h12, e12, s12, U12, o12⟩ := keep_one (n := n + 6) fNum s11 U11 dc11 (fun q e => by have := qc q e; omega) hr1 rfl
      have dd12 : Odd od h12 wd := dd11.upO o12 (fun q e z => by have h1 := qc q z; have h2 := qd q e; omega)
      have B1 := fun b => ask5_blo (n := n + 14) (b := b) (g := g) (x := 0) (by decide) (by decide) (odd_between (n := n + 15) dd12 nd)
      obtain ⟨h13, e13, s13, U13, o13⟩ := keep_one (n := n + 6) fBlo s12 U12 dd12 (fun q e => by have := qd q e; omega) hr1 rfl
      simp only [EV, EVS, EVR, EVX, pw18, e9, e10, ec2, e11, ev2, B0]
      rw [← sNum]
      rw [e12]
      simp only [EV, EVS, EVR, EVX, Bool.not_true, B1]
      rw [← sBlo]
      rw [e13]
      have L13 := U13.len
      obtain ⟨wf, of, h14, e14, s14, u14, df, nf, qf⟩ := no_number (n := n + 17) s13 (by omega) (lo := 0) (hi := 1000000000000) (by decide) (by decide) (by decide)
      have B2 := fun b => ask6_num (n := n + 14) (b := b) (g := g) (w2 := .ref g) (odd_between (n := n + 15) df nf)
      obtain ⟨h15, e15, s15, U15, o15⟩ := keep_one (n := n + 6) fNum s14 (U13.trans u14) df (fun q e => by have := qf q e; omega) hr1 rfl
      simp only [EV, EVS, EVR, EVX, Bool.not_true, pw12, e14, B2]
      rw [← sNum]
      rw [e15]
      simp only [EV, EVS, EVR, EVX, Bool.not_true]
      exact ⟨_, _, rfl, _, _, _, _, rfl, s15.mono (by omega), U15⟩
  · obtain ⟨y4, y5, y6, y7, rfl, s', u'⟩ := i
    simp only [EV, EVS, EVR, EVX]
    rw [← eg]
    obtain ⟨z1, z2⟩ := cut_HSt (ws := [.bl true]) s' (U1.trans u') hr
    exact ⟨_, rfl, z1.mono (by rw [wI_len, iot_len, show (2 : Int).toNat = 2 from rfl]; omega), z2⟩
end
end K77
end

section
set_option Elab.async false
set_option linter.all false
set_option maxRecDepth 100000
set_option maxHeartbeats 8000000
/-! k77: the law. -/
namespace K77
open MP
section
variable {p q : Int} {l m : List Int} {h : Hs} {g d g2 d2 n r : Nat} {b : Bool} {N : Int} {w : W} {o : Option Nat}
theorem take1_ok (O : GOk p l) : GOk p (l.take 1) := by
  refine ⟨O.p1, O.p2, ?_, O.pw.sublist (List.take_sublist _ _), fun m hm => O.rg m (List.take_subset _ _ hm)⟩
  cases l with
  | nil => exact absurd rfl O.ne
  | cons a t => simp
theorem slc_tup {ws : List W} {a b : Option Int} : slc2 h (.tup ws) a b = .ok (.tup (sliceL a b ws)) h := rfl
theorem law_ok {ns : List Int} : ∃ h', callN P (n + 31) 45 [.ref 0] [.frz (wI ns)] = .ok (.bl true) h' ∧ True := by
  rw [c_law, b_law]
  have e0 : ([.frz (wI ns)] : Hs)[0]? = some (.frz (wI ns)) := rfl
  have w0 : Wf [.frz (wI ns)] := by
    unfold Wf Closed
    simp [Cell.bel, wI_bel]
  generalize ([.frz (wI ns)] : Hs) = h0 at e0 w0 ⊢
  simp only [EV, EVS, EVR, EVX, len_frz e0, wI_len, bi_min, bi_max]
  have hm : (if (if (ns.length : Int) < 5 then (ns.length : Int) else 5) > 2 then (if (ns.length : Int) < 5 then (ns.length : Int) else 5) else 2) ≤ 5 ∧ 0 ≤ (if (if (ns.length : Int) < 5 then (ns.length : Int) else 5) > 2 then (if (ns.length : Int) < 5 then (ns.length : Int) else 5) else 2) := by
    split <;> (try split) <;> omega
  generalize (if (if (ns.length : Int) < 5 then (ns.length : Int) else 5) > 2 then (if (ns.length : Int) < 5 then (ns.length : Int) else 5) else 2) = mx at hm ⊢
  rw [rng1 (by omega) (by omega)]
  simp only [EV, EVS, EVR, EVX]
  refine ex_for (fun k env h' => ∃ y1 y2 y3 y4 y5, env = [some (W.ref 0), y1, y2, y3, y4, y5] ∧ Wf h' ∧ h'[0]? = some (.frz (wI ns))) ⟨_, _, _, _, _, rfl, w0, e0⟩ (fun k env h' i => rfl) (fun k x env h' e i => ?_) (fun env' h' i => ?_)
  · obtain ⟨y1, y2, y3, y4, y5, rfl, w', f'⟩ := i
    obtain rfl := iot_get e
    have hk := lt_of_get e
    rw [wI_len, iot_len] at hk
    refine ⟨_, rfl, ?_⟩
    obtain ⟨i, ei⟩ := cell_ok (n := n + 29) (k := 0 + k) w' f' (by omega) (by omega)
    obtain ⟨h1, e1, s1, k1⟩ := box_ok (n := n + 29) (i := i) w'
    have f1 := k1 _ _ f'
    have r0 : h'.length ≠ 0 := by have := lt_of_get f'; omega
    generalize h'.length = r at s1 e1 r0
    obtain ⟨x2, h2, e2, x20, x21, s2, u2, _⟩ := take76 (n := n + 29) s1 (by omega) (show (1 : Int) ≤ 6 by decide) (by decide)
    obtain ⟨p, l, h3, e3, O, h3p, s3, u3⟩ := grain_ok (n := n + 28) s2 (by omega) x20 x21
    obtain ⟨x4, h4, e4, x40, x41, s4, u4, _⟩ := take76 (n := n + 29) s3 (by omega) (show (1 : Int) ≤ 6 by decide) (by decide)
    obtain ⟨q, m, h5, e5, O2, h4p, s5, u5⟩ := grain_ok (n := n + 28) s4 (by omega) x40 x41
    have f5 : h5[0]? = some (.frz (wI ns)) := u5.at (u4.at (u3.at (u2.at f1 (Ne.symm r0)) (Ne.symm r0)) (Ne.symm r0)) (Ne.symm r0)
    have M1 := mk_ok (n := n + 25) (h := h5) O h3p
    rw [show (Cell.ins 9 [(3, .int p), (4, .tup (wI l)), (0, .ref (h5.length + 1))]) = GINS (h5.length + 1) p l from rfl] at M1
    simp only [List.append_assoc, List.cons_append, List.nil_append] at M1
    have s6 := (s5.apps (l := [GINS (h5.length + 1) p l, .dct (kvT l)]) (by simp [gins_bel, kvT_bel])).mono (show _ ≤ 100 by omega)
    have G6 := gr_new (p := p) (l := l) (a := 1) h5 [GINS (h5.length + 1) p l, .dct (kvT l)] rfl rfl
    have f6 := app_at (l := [GINS (h5.length + 1) p l, .dct (kvT l)]) f5
    have r5 := s5.lt
    have n6 : h5.length ≠ r ∧ h5.length + 1 ≠ r := by omega
    obtain ⟨h7, e7, s7, u7⟩ := grouped_right (n := n + 10) s6 (by omega) G6 O h3p n6.1 n6.2
    have G7 : GrAt h7 h5.length (h5.length + 1) p l := ⟨u7.at G6.g n6.1, u7.at G6.d n6.2⟩
    obtain ⟨h8, e8, s8, u8⟩ := rounded_right (n := n + 10) s7 (by omega) G7 O h3p n6.1 n6.2
    have G8 : GrAt h8 h5.length (h5.length + 1) p l := ⟨u8.at G7.g n6.1, u8.at G7.d n6.2⟩
    obtain ⟨h9, e9, s9, u9⟩ := moved_right (n := n + 10) s8 (by omega) G8 O n6.1 n6.2
    obtain ⟨h10, e10, s10, u10⟩ := aligned_right (n := n + 10) s9 (by omega) O O2 h3p h4p
    obtain ⟨h11, e11, s11, u11⟩ := aligned_right (n := n + 10) s10 (by omega) O (take1_ok O) h3p h3p
    obtain ⟨h12, e12, s12, u12⟩ := refused_right (n := n + 10) s11 (by omega) O h3p
    have r0' := Ne.symm r0
    have f12 := u12.at (u11.at (u10.at (u9.at (u8.at (u7.at f6 r0') r0') r0') r0') r0') r0'
    simp only [EV, EVS, EVR, EVX, ei, e1, e2, e3, e4, e5, idx_gr0, idx_gr1, M1, e7, Bool.not_true, e8, e9, e10, oInt_int, slc_tup, slice1]
    rw [show W.tup [.int p, .tup (wI (l.take 1))] = grW (p, l.take 1) from rfl, e11]
    simp only [EV, EVS, EVR, EVX, Bool.not_true, e12]
    exact ⟨_, _, rfl, _, _, _, _, _, rfl, s12.wf, f12⟩
  · obtain ⟨y1, y2, y3, y4, y5, rfl, w', f'⟩ := i
    simp only [EV, EVS, EVR, EVX]
    exact ⟨_, rfl, trivial⟩
end
end K77
end

section
set_option Elab.async false
set_option linter.all false
theorem PySem.Challenge.cw_intervalbench_k77_grouped_rounded_moved_holds : PySem.Challenge.rw_intervalbench_k77_grouped_rounded_moved.Holds := by
  refine K77.holds fun ns _ => ?_
  obtain ⟨h', e, _⟩ := K77.law_ok (n := 0) (ns := ns)
  have e2 : MP.callN K77.P (30 + 1) 45 [.ref 0] [.frz (ns.map .int)] = .ok (.bl true) h' := e
  exact (congrArg MP.R.yes e2).trans rfl
end
