import PyProof.Rows.All
import Wide.All
import OpenK.AllK
import Wide.FinOn
import HandS.ForMost
import HandS.ForExc
import HandS.Walk
import HandS.TupAny
import HandS.Flow
import HandS.Deep
import HandS.IsInst
import HandS.Small
import HandS.Zip
import HandS.Conv
import HandS.SortInts
import HandS.More
import KE.KDictPairs
import KE.KRevSl
import KE.GoesMore
import HandS.WordsExc
import HandS.TryMany
import HandS.Codes
import HandS.Defaults
import KE.KStateDown
import HandS.Head0
import HandS.Head1
import HandS.Head2
import HandS.HeadEnd
import HandS.HeadHook1
import HandS.HeadHook2
import PyProof.ExcBaseAll.ValueError
import PySem.Challenge.RW_rowkeep_k16_whole_orders_led_on
set_option Elab.async false
set_option linter.all false
set_option maxRecDepth 100000
set_option maxHeartbeats 4000000
/-! Mp1: a small interpreter for the subset of Python that the laws use: values D, memory Mem, expressions E, statements S. -/
namespace MP
open PySem

inductive D where
  | non | bl (b : Bool) | int (i : Int) | str (s : Str) | tup (xs : List D) | lst (xs : List D) | ref (n : Nat)
  deriving Inhabited

mutual
def D.beq : D → D → Bool
  | .non, .non => true
  | .bl a, .bl b => a == b
  | .int a, .int b => decide (a = b)
  | .str a, .str b => decide (a = b)
  | .tup a, .tup b => D.beqL a b
  | .lst a, .lst b => D.beqL a b
  | .ref a, .ref b => decide (a = b)
  | _, _ => false
def D.beqL : List D → List D → Bool
  | [], [] => true
  | a :: as, b :: bs => D.beq a b && D.beqL as bs
  | _, _ => false
end
mutual
theorem D.beq_eq : ∀ a b : D, D.beq a b = true → a = b
  | .non, b, h => by cases b <;> simp [D.beq] at h ⊢
  | .bl x, b, h => by cases b <;> simp [D.beq] at h ⊢; exact h
  | .int x, b, h => by cases b <;> simp [D.beq] at h ⊢; exact h
  | .str x, b, h => by cases b <;> simp [D.beq] at h ⊢; exact h
  | .tup x, b, h => by cases b <;> simp [D.beq] at h ⊢; exact D.beqL_eq _ _ h
  | .lst x, b, h => by cases b <;> simp [D.beq] at h ⊢; exact D.beqL_eq _ _ h
  | .ref x, b, h => by cases b <;> simp [D.beq] at h ⊢; exact h
theorem D.beqL_eq : ∀ a b : List D, D.beqL a b = true → a = b
  | [], [], _ => rfl
  | [], _ :: _, h => by simp [D.beqL] at h
  | _ :: _, [], h => by simp [D.beqL] at h
  | a :: as, b :: bs, h => by
    simp [D.beqL] at h
    rw [D.beq_eq a b h.1, D.beqL_eq as bs h.2]
end
mutual
theorem D.beq_refl : ∀ a : D, D.beq a a = true
  | .non => rfl
  | .bl _ => by simp [D.beq]
  | .int _ => by simp [D.beq]
  | .str _ => by simp [D.beq]
  | .tup x => by simp [D.beq, D.beqL_refl x]
  | .lst x => by simp [D.beq, D.beqL_refl x]
  | .ref _ => by simp [D.beq]
theorem D.beqL_refl : ∀ a : List D, D.beqL a a = true
  | [] => rfl
  | a :: as => by simp [D.beqL, D.beq_refl a, D.beqL_refl as]
end
instance : DecidableEq D := fun a b =>
  if h : D.beq a b = true then .isTrue (D.beq_eq a b h) else .isFalse fun e => h (e ▸ D.beq_refl a)

abbrev Key := Sum Int Str
/-- what may change: lists, dicts, instances (class, fields by number) -/
inductive MO where
  | lst (xs : List D) | dK (kvs : List (Key × D)) | dT (kvs : List (List Key × D)) | ins (C : Nat) (fs : List (Nat × D))
  deriving DecidableEq, Inhabited
abbrev Mem := List MO
abbrev Env := List (Option D)

inductive R (α : Type) where
  | ok (a : α) (M : Mem) | exc (c : Nat) (M : Mem) | stuck
def R.bind {α β : Type} (r : R α) (f : α → Mem → R β) : R β := match r with
  | .ok a M => f a M
  | .exc c M => .exc c M
  | .stuck => .stuck
@[simp] theorem R.bind_ok {α β : Type} (a : α) (M : Mem) (f : α → Mem → R β) : (R.ok a M).bind f = f a M := rfl
@[simp] theorem R.bind_exc {α β : Type} (c : Nat) (M : Mem) (f : α → Mem → R β) : (R.exc c M : R α).bind f = .exc c M := rfl
@[simp] theorem R.bind_stuck {α β : Type} (f : α → Mem → R β) : (R.stuck : R α).bind f = .stuck := rfl

inductive F where
  | nx (ρ : Env) (M : Mem) | rt (d : D) (M : Mem) | bk (ρ : Env) (M : Mem) | ct (ρ : Env) (M : Mem) | ex (c : Nat) (ρ : Env) (M : Mem) | stuck

/-- the largest length -/
def big : Nat := 16777216

/-! ### equality, truth -/
mutual
def D.eqv : D → D → Bool
  | .non, .non => true
  | .bl a, .bl b => a == b
  | .bl a, .int j => decide ((if a then 1 else 0) = j)
  | .int i, .bl b => decide (i = (if b then 1 else 0))
  | .int a, .int b => decide (a = b)
  | .str a, .str b => decide (a = b)
  | .tup a, .tup b => D.eqvL a b
  | .lst a, .lst b => D.eqvL a b
  | _, _ => false
def D.eqvL : List D → List D → Bool
  | [], [] => true
  | a :: as, b :: bs => D.eqv a b && D.eqvL as bs
  | _, _ => false
end
def sOk (x : Str) : Bool := x.cps.all (· < 0x110000)
mutual
/-- plain data: no refs -/
def D.plain : D → Bool
  | .ref _ => false
  | .str s => sOk s
  | .tup xs => D.plainL xs
  | .lst xs => D.plainL xs
  | _ => true
def D.plainL : List D → Bool
  | [] => true
  | x :: xs => D.plain x && D.plainL xs
end
mutual
def D.depth : D → Nat
  | .tup xs => D.depthL xs + 1
  | .lst xs => D.depthL xs + 1
  | _ => 0
def D.depthL : List D → Nat
  | [] => 0
  | x :: xs => max (D.depth x) (D.depthL xs)
end
def D.good (d : D) : Bool := d.plain && decide (d.depth ≤ 64)
def D.isScal : D → Bool
  | .non => true | .bl _ => true | .int _ => true | .str _ => true | _ => false
/-- a list that stands in the memory, as it is now -/
def deref (M : Mem) (d : D) : D := match d with
  | .ref n => (match M[n]? with | some (.lst xs) => .lst xs | _ => d)
  | _ => d
def scalEq : D → D → Option Bool
  | .non, .non => some true | .non, .int _ => some false | .int _, .non => some false | .non, .bl _ => some false | .bl _, .non => some false
  | .non, .str _ => some false | .str _, .non => some false | .int a, .int b => some (decide (a = b)) | .bl a, .bl b => some (decide (a = b))
  | .str a, .str b => some (decide (a = b)) | .int _, .str _ => some false | .str _, .int _ => some false | .bl _, .str _ => some false | .str _, .bl _ => some false
  | _, _ => none
def eqD (M : Mem) (x y : D) : Option Bool := match scalEq x y with
  | some b => some b
  | none => if (deref M x).good && (deref M y).good then some ((deref M x).eqv (deref M y)) else none
def truth (M : Mem) : D → Option Bool
  | .non => some false
  | .bl b => some b
  | .int i => some (i != 0)
  | .str s => if s.length ≤ big then some ((s.length : Int) != 0) else none
  | .tup xs => some !xs.isEmpty
  | .lst xs => some !xs.isEmpty
  | .ref n => (match M[n]? with
    | some (.lst xs) => some !xs.isEmpty
    | some (.dK kvs) => some !kvs.isEmpty
    | _ => none)

/-! ### dicts -/
def keyOf : D → Option Key
  | .int i => some (.inl i)
  | .str s => some (.inr s)
  | _ => none
def keysOf : List D → Option (List Key)
  | [] => some []
  | d :: ds => match keyOf d, keysOf ds with
    | some k, some ks => some (k :: ks)
    | _, _ => none
def keyD : Key → D
  | .inl i => .int i
  | .inr s => .str s
section
variable {κ : Type} [DecidableEq κ]
def dGet (kvs : List (κ × D)) (k : κ) : Option D := (kvs.find? fun kv => decide (kv.1 = k)).map (·.2)
def dPut (kvs : List (κ × D)) (k : κ) (v : D) : List (κ × D) :=
  if kvs.any (fun kv => decide (kv.1 = k)) then kvs.map fun kv => if kv.1 = k then (kv.1, v) else kv else kvs ++ [(k, v)]
def dDrop (kvs : List (κ × D)) (k : κ) : List (κ × D) := kvs.filter fun kv => decide (kv.1 ≠ k)
def dMerge (kvs more : List (κ × D)) : List (κ × D) := more.foldl (fun acc kv => dPut acc kv.1 kv.2) kvs
end
/-- d[k] where it stands: none: stuck; some none: not there -/
def look (M : Mem) (d k : D) : Option (Option D) := match d with
  | .ref n => (match M[n]? with
    | some (.dK kvs) => (keyOf k).map fun q => dGet kvs q
    | _ => none)
  | _ => none

/-! ### sequences -/
def seqOf (M : Mem) : D → Option (List D)
  | .tup xs => some xs
  | .lst xs => some xs
  | .ref n => (match M[n]? with | some (.lst xs) => some xs | _ => none)
  | _ => none
def cut {α : Type} (xs : List α) (lo hi : Option Int) : List α :=
  (xs.drop (HT.sIx xs.length 0 lo)).take (HT.sIx xs.length xs.length hi - HT.sIx xs.length 0 lo)
/-- a new list: kept in the memory where it will change (m), else a value -/
def newL (m : Bool) (xs : List D) (M : Mem) : R D := if m then .ok (.ref M.length) (M ++ [.lst xs]) else .ok (.lst xs) M
def atD (M : Mem) (xs : List D) : D → R D
  | .int i => (match L2.atI xs i with | some d => .ok d M | none => .stuck)
  | _ => .stuck
def idx (M : Mem) (x y : D) : R D := match x with
  | .ref n => (match M[n]? with
    | some (.lst xs) => atD M xs y
    | _ => (match look M x y with | some (some d) => .ok d M | _ => .stuck))
  | .tup xs => atD M xs y
  | .lst xs => atD M xs y
  | _ => .stuck
def isIn (M : Mem) (x y : D) : Option Bool := match y with
  | .tup xs => if x.good && (D.tup xs).good then some (xs.any fun z => z.eqv x) else none
  | .lst xs => if x.good && (D.lst xs).good then some (xs.any fun z => z.eqv x) else none
  | .ref n => (match M[n]? with
    | some (.lst xs) => if x.good && (D.lst xs).good then some (xs.any fun z => z.eqv x) else none
    | _ => (look M y x).map Option.isSome)
  | .str t => (match x with
    | .str s => if s.length = 1 then some (t.cps.toList.any fun c => decide (s.cps.toList = [c])) else none
    | _ => none)
  | _ => none

/-! ### operators -/
inductive Op2 where
  | add (m : Bool) | sub | mul (m : Bool) | fdiv | mod
  deriving DecidableEq
def small64 (i : Int) : Bool := decide (-(2 ^ 64) < i ∧ i < 2 ^ 64)
def op2 (op : Op2) (x y : D) (M : Mem) : R D := match op with
  | .add m => (match x, y with
    | .int i, .int j => .ok (.int (i + j)) M
    | .tup xs, .tup ys => if xs.length + ys.length ≤ big then .ok (.tup (xs ++ ys)) M else .stuck
    | _, _ => (match deref M x, deref M y with
      | .lst xs, .lst ys => if xs.length + ys.length ≤ big then newL m (xs ++ ys) M else .stuck
      | _, _ => .stuck))
  | .sub => (match x, y with | .int i, .int j => .ok (.int (i - j)) M | _, _ => .stuck)
  | .mul m => (match x, y with
    | .int i, .int j => if small64 i || small64 j then .ok (.int (i * j)) M else .stuck
    | _, .int k => (match deref M x with
      | .lst xs => if -(2 ^ 63) ≤ k ∧ k < 2 ^ 63 ∧ xs.length * k.toNat ≤ big then newL m (List.replicate k.toNat xs).flatten M else .stuck
      | _ => .stuck)
    | _, _ => .stuck)
  | .fdiv => (match x, y with | .int i, .int j => if 0 < j ∧ j < 1073741824 then .ok (.int (i / j)) M else .stuck | _, _ => .stuck)
  | .mod => (match x, y with | .int i, .int j => if 0 < j then .ok (.int (i % j)) M else .stuck | _, _ => .stuck)
def cmpI (op : CmpOp) (i j : Int) : Option Bool := match op with
  | .Lt => some (decide (i < j))
  | .LtE => some (decide (i ≤ j))
  | .Gt => some (decide (j < i))
  | .GtE => some (decide (j ≤ i))
  | _ => none
def cmpS (op : CmpOp) (s t : Str) : Option Bool := match op with
  | .Lt => some (decide (s.cps.toList < t.cps.toList))
  | .LtE => some (!decide (t.cps.toList < s.cps.toList))
  | .Gt => some (decide (t.cps.toList < s.cps.toList))
  | .GtE => some (!decide (s.cps.toList < t.cps.toList))
  | _ => none
def ordD (op : CmpOp) (x y : D) : Option Bool := match x, y with
  | .int i, .int j => cmpI op i j
  | .str s, .str t => cmpS op s t
  | _, _ => none
def cmpD (op : CmpOp) (M : Mem) (x y : D) : Option Bool := match op with
  | .Eq => eqD M x y
  | .NotEq => (eqD M x y).map not
  | .In => isIn M x y
  | .NotIn => (isIn M x y).map not
  | .Is => none
  | .IsNot => none
  | .Lt => ordD .Lt x y
  | .LtE => ordD .LtE x y
  | .Gt => ordD .Gt x y
  | .GtE => ordD .GtE x y
def R.ofB (o : Option Bool) (M : Mem) : R D := match o with | some b => .ok (.bl b) M | none => .stuck
@[simp] theorem R.ofB_some (b : Bool) (M : Mem) : R.ofB (some b) M = .ok (.bl b) M := rfl
@[simp] theorem R.ofB_none (M : Mem) : R.ofB none M = .stuck := rfl

/-! ### types -/
inductive Ty where
  | int | str | bool | tuple | list
  deriving DecidableEq
def isTy (M : Mem) (T : Ty) : D → Option Bool
  | .non => some false
  | .bl _ => some (T == .bool || T == .int)
  | .int _ => some (T == .int)
  | .str _ => some (T == .str)
  | .tup _ => some (T == .tuple)
  | .lst _ => some (T == .list)
  | .ref n => (match M[n]? with
    | some (.lst _) => some (T == .list)
    | _ => none)

/-! ### sorting -/
def insI (x : Int) : List Int → List Int
  | [] => [x]
  | y :: ys => if x ≤ y then x :: y :: ys else y :: insI x ys
def sortI : List Int → List Int
  | [] => []
  | x :: xs => insI x (sortI xs)
def insS (x : Str) : List Str → List Str
  | [] => [x]
  | y :: ys => if x.cps.toList ≤ y.cps.toList then x :: y :: ys else y :: insS x ys
def sortS : List Str → List Str
  | [] => []
  | x :: xs => insS x (sortS xs)
def intsOf : List D → Option (List Int)
  | [] => some []
  | .int i :: r => (intsOf r).map (i :: ·)
  | _ :: _ => none
def strsOf : List D → Option (List Str)
  | [] => some []
  | .str i :: r => (strsOf r).map (i :: ·)
  | _ :: _ => none
def blsOf : List D → Option (List Bool)
  | [] => some []
  | .bl i :: r => (blsOf r).map (i :: ·)
  | _ :: _ => none
def kintsOf : List (Key × D) → Option (List Int)
  | [] => some []
  | (.inl i, _) :: r => (kintsOf r).map (i :: ·)
  | _ :: _ => none
def sorted (M : Mem) (d : D) : Option (List D) := match d with
  | .ref n => (match M[n]? with
    | some (.lst xs) => (intsOf xs).map fun ns => (sortI ns).map D.int
    | some (.dK kvs) => (kintsOf kvs).map fun ns => (sortI ns).map D.int
    | _ => none)
  | .lst xs => (intsOf xs).map fun ns => (sortI ns).map D.int
  | _ => none
/-- pairs (key, value) -/
def pairsOf : List D → Option (List (Key × D))
  | [] => some []
  | .tup [k, v] :: r => (match keyOf k, pairsOf r with
    | some q, some kvs => some ((q, v) :: kvs)
    | _, _ => none)
  | _ :: _ => none

/-! ### built-in functions and methods -/
inductive B where
  | len | tuple | list (m : Bool) | dict | sorted (m : Bool) | all | any | int | max | min | listrng (m : Bool)
  deriving DecidableEq
def rng (a b : Int) : List D := (List.range (b - a).toNat).map fun i => D.int (a + (i : Nat))
def bltF (f : B) (ds : List D) (M : Mem) : R D := match f, ds with
  | .len, [d] => (match d with
    | .str s => if s.length ≤ big then .ok (.int s.length) M else .stuck
    | .ref n => (match M[n]? with
      | some (.lst xs) => .ok (.int xs.length) M
      | some (.dK kvs) => .ok (.int kvs.length) M
      | _ => .stuck)
    | .tup xs => .ok (.int xs.length) M
    | .lst xs => .ok (.int xs.length) M
    | _ => .stuck)
  | .tuple, [d] => (match seqOf M d with | some xs => .ok (.tup xs) M | none => .stuck)
  | .list m, [d] => (match seqOf M d with | some xs => newL m xs M | none => .stuck)
  | .dict, [d] => (match seqOf M d with
    | some xs => (match pairsOf xs with | some kvs => .ok (.ref M.length) (M ++ [.dK (dMerge [] kvs)]) | none => .stuck)
    | none => .stuck)
  | .sorted m, [d] => (match sorted M d with | some xs => newL m xs M | none => .stuck)
  | .all, [d] => (match deref M d with
    | .lst xs => (match blsOf xs with | some bs => .ok (.bl (bs.all id)) M | none => .stuck)
    | _ => .stuck)
  | .any, [d] => (match deref M d with
    | .lst xs => (match blsOf xs with | some bs => .ok (.bl (bs.any id)) M | none => .stuck)
    | _ => .stuck)
  | .int, [.int i] => .ok (.int i) M
  | .int, [.bl k] => .ok (.int (if k then 1 else 0)) M
  | .max, [.int i, .int j] => .ok (.int (if j > i then j else i)) M
  | .min, [.int i, .int j] => .ok (.int (if j < i then j else i)) M
  | .listrng m, [.int n] => if 0 ≤ n ∧ n ≤ big then newL m (rng 0 n) M else .stuck
  | _, _ => .stuck
inductive BM where
  | append | extend | lpop | dpop | dget
  deriving DecidableEq
/-- the receiver is of the method's kind -/
def bmOk (f : BM) (M : Mem) (x : D) : Bool := match x with
  | .ref n => (match M[n]? with
    | some (.lst _) => f == .append || f == .extend || f == .lpop
    | some (.dK _) => f == .dpop || f == .dget
    | _ => false)
  | _ => false
def bmF (f : BM) (x : D) (ds : List D) (M : Mem) : R D := match f, x, ds with
  | .append, .ref n, [d] => (match M[n]? with
    | some (.lst xs) => if xs.length < big then .ok .non (M.set n (.lst (xs ++ [d]))) else .stuck
    | _ => .stuck)
  | .extend, .ref n, [d] => (match M[n]?, deref M d with
    | some (.lst xs), .lst ys => if xs.length + ys.length ≤ big then .ok .non (M.set n (.lst (xs ++ ys))) else .stuck
    | _, _ => .stuck)
  | .lpop, .ref n, [.int i] => (match M[n]? with
    | some (.lst xs) => (match L2.ixN xs.length i with
      | some j => (match xs[j]? with
        | some d => .ok d (M.set n (.lst (xs.eraseIdx j)))
        | none => .stuck)
      | none => .stuck)
    | _ => .stuck)
  | .dpop, .ref n, [k] => (match M[n]? with
    | some (.dK kvs) => (match keyOf k with
      | some q => (match dGet kvs q with
        | some d => .ok d (M.set n (.dK (dDrop kvs q)))
        | none => .stuck)
      | none => .stuck)
    | _ => .stuck)
  | .dget, x, [k, v] => (match look M x k with
    | some o => .ok (o.getD v) M
    | none => .stuck)
  | _, _, _ => .stuck

/-! ### targets, sources -/
inductive Tg where
  | name (i : Nat) | nil | cons (t ts : Tg) | tup (ts : Tg)
  deriving DecidableEq
mutual
/-- a target takes a value; a list of targets takes values -/
def asg : Tg → D → Env → Option Env
  | .name i, d, ρ => some (ρ.set i (some d))
  | .tup ts, .tup ds, ρ => asgL ts ds ρ
  | _, _, _ => none
def asgL : Tg → List D → Env → Option Env
  | .nil, [], ρ => some ρ
  | .cons t ts, d :: ds, ρ => (match asg t d ρ with
    | some ρ' => asgL ts ds ρ'
    | none => none)
  | _, _, _ => none
end
def Tg.slots : Tg → List Nat
  | .name i => [i]
  | .nil => []
  | .cons t ts => t.slots ++ ts.slots
  | .tup ts => ts.slots
def D.isT : D → Bool
  | .tup _ => true
  | _ => false
inductive ItK where
  | seq | range | zip | enum
  deriving DecidableEq
/-- what is walked: the items, and the list that must stand still -/
def items (k : ItK) (ds : List D) (M : Mem) : Option (List D) := match k, ds with
  | .seq, [d] => seqOf M d
  | .range, [.int n] => if -(2 ^ 62) ≤ n ∧ n ≤ big then some (rng 0 n) else none
  | .range, [.int a, .int b] => if -(2 ^ 62) ≤ a ∧ a < 2 ^ 62 ∧ -(2 ^ 62) ≤ b ∧ b < 2 ^ 62 ∧ b - a ≤ big then some (rng a b) else none
  | .zip, [d, e] => (match seqOf M d, seqOf M e with
    | some xs, some ys => if d.isT == e.isT then some (List.zipWith (fun x y => D.tup [x, y]) xs ys) else none
    | _, _ => none)
  | .enum, [d] => (match seqOf M d with
    | some xs => some (xs.zipIdx.map fun p => D.tup [.int (p.2 : Nat), p.1])
    | none => none)
  | _, _ => none
/-- the lists that are walked stand as they stood -/
def still (ds : List D) (M M' : Mem) : Bool := ds.all fun d => match d with
  | .ref n => decide (M'[n]? = M[n]?)
  | _ => true
def wipe (ρ : Env) : List Nat → Env
  | [] => ρ
  | v :: vs => (wipe ρ vs).set v none

mutual
/-- no object from k on -/
def D.under (k : Nat) : D → Bool
  | .ref n => decide (n < k)
  | .tup xs => D.underL k xs
  | .lst xs => D.underL k xs
  | _ => true
def D.underL (k : Nat) : List D → Bool
  | [] => true
  | x :: xs => D.under k x && D.underL k xs
end
def MO.under (k : Nat) : MO → Bool
  | .lst xs => D.underL k xs
  | .dK kvs => kvs.all fun p => p.2.under k
  | .dT kvs => kvs.all fun p => p.2.under k
  | .ins _ fs => fs.all fun p => p.2.under k
/-- memory forgotten from M's length on -/
def drop (M M' : Mem) : Option Mem :=
  if M'.take M.length = M then some M else if (M'.take M.length).all (MO.under M.length) then some (M'.take M.length) else none

/-! ### expressions -/
inductive E where
  | var (i : Nat) | cst (d : D) | glb (x : Nat)
  | nil | cons (a as : E)
  | tup (as : E) | lst (m : Bool) (as : E) | dnew (t : Bool)
  | bin (op : Op2) (a b : E) | neg (a : E) | not (a : E) | and (a b : E) | or (a b : E)
  | cmp (op : CmpOp) (a b : E) | isN (n : Bool) (a : E) | chn (op op' : CmpOp) (a b c : E)
  | ife (c a b : E) | idx (a b : E) | slc (m : Bool) (a lo hi : E) | rev (a : E) | fld (a : E) (f : Nat)
  | call (f : Nat) (as : E) | meth (C f : Nat) (a : E) (as : E) | make (C f : Nat) (as : E)
  | blt (f : B) (as : E) | bm (f : BM) (a : E) (as : E) | isi (a : E) (T : Ty)
  | comp (m : Bool) (own : List Nat) (t : Tg) (k : ItK) (src : E) (c : E) (e : E)

/-- a comprehension's turns: g gives the item, or none where the test fails -/
def compL (ds : List D) (M0 : Mem) (g : D → Mem → R (Option D)) : List D → List D → Mem → R (List D)
  | [], acc, M => if still ds M0 M then .ok acc M else .stuck
  | x :: xs, acc, M => if still ds M0 M then (match g x M with
      | .ok (some d) M' => compL ds M0 g xs (acc ++ [d]) M'
      | .ok none M' => compL ds M0 g xs acc M'
      | _ => .stuck) else .stuck
def E.isNil : E → Bool
  | .nil => true
  | _ => false
def toInt (x : D) (M : Mem) : R (Option Int) := match x with | .int i => .ok (some i) M | _ => .stuck
def toTest (x : D) (M : Mem) : R Bool := match truth M x with | some b => .ok b M | none => .stuck
abbrev CF := Nat → List D → Mem → R D
section
variable (gl : Nat → Option D) (cf : CF)
mutual
def eval : E → Env → Mem → R D
  | .var i, ρ, M => (match ρ[i]? with | some (some d) => .ok d M | _ => .stuck)
  | .cst d, _, M => .ok d M
  | .glb x, _, M => (match gl x with | some d => .ok d M | none => .stuck)
  | .tup as, ρ, M => (evalL as ρ M).bind fun ds M => if ds.length ≤ big then .ok (.tup ds) M else .stuck
  | .lst m as, ρ, M => (evalL as ρ M).bind fun ds M => if ds.length ≤ big then newL m ds M else .stuck
  | .dnew t, _, M => .ok (.ref M.length) (M ++ [if t then .dT [] else .dK []])
  | .bin op a b, ρ, M => (eval a ρ M).bind fun x M => (eval b ρ M).bind fun y M => op2 op x y M
  | .neg a, ρ, M => (eval a ρ M).bind fun x M => (match x with | .int i => .ok (.int (-i)) M | _ => .stuck)
  | .not a, ρ, M => (eval a ρ M).bind fun x M => R.ofB ((truth M x).map Bool.not) M
  | .and a b, ρ, M => (eval a ρ M).bind fun x M => (match truth M x with | some true => eval b ρ M | some false => .ok x M | none => .stuck)
  | .or a b, ρ, M => (eval a ρ M).bind fun x M => (match truth M x with | some true => .ok x M | some false => eval b ρ M | none => .stuck)
  | .cmp op a b, ρ, M => (eval a ρ M).bind fun x M => (eval b ρ M).bind fun y M => R.ofB (cmpD op M x y) M
  | .isN n a, ρ, M => (eval a ρ M).bind fun x M => .ok (.bl (match x with | .non => !n | _ => n)) M
  | .chn op op' a b c, ρ, M => (eval a ρ M).bind fun x M => (eval b ρ M).bind fun y M => (match cmpD op M x y with
      | some true => (eval c ρ M).bind fun z M => R.ofB (cmpD op' M y z) M
      | some false => .ok (.bl false) M
      | none => .stuck)
  | .ife c a b, ρ, M => (eval c ρ M).bind fun x M => (match truth M x with | some true => eval a ρ M | some false => eval b ρ M | none => .stuck)
  | .idx a b, ρ, M => (eval a ρ M).bind fun x M => (eval b ρ M).bind fun y M => idx M x y
  | .slc m a lo hi, ρ, M => (eval a ρ M).bind fun x M => (if lo.isNil then .ok none M else (eval lo ρ M).bind toInt).bind fun l M => (if hi.isNil then .ok none M else (eval hi ρ M).bind toInt).bind fun h M => (match x with
      | .tup xs => .ok (.tup (cut xs l h)) M
      | _ => (match deref M x with
        | .lst xs => newL m (cut xs l h) M
        | _ => .stuck))
  | .rev a, ρ, M => (eval a ρ M).bind fun x M => (match x with | .tup xs => .ok (.tup xs.reverse) M | _ => .stuck)
  | .fld a f, ρ, M => (eval a ρ M).bind fun x M => (match x with
      | .ref n => (match M[n]? with
        | some (.ins _ fs) => (match fs.lookup f with | some d => .ok d M | none => .stuck)
        | _ => .stuck)
      | _ => .stuck)
  | .call f as, ρ, M => (evalL as ρ M).bind fun ds M => cf f ds M
  | .meth C f a as, ρ, M => (eval a ρ M).bind fun x M => (match x with
      | .ref n => (match M[n]? with
        | some (.ins C' _) => if C' = C then (evalL as ρ M).bind fun ds M => cf f (x :: ds) M else .stuck
        | _ => .stuck)
      | _ => .stuck)
  | .make C f as, ρ, M => (evalL as ρ M).bind fun ds M => (match cf f (.ref M.length :: ds) (M ++ [.ins C []]) with
      | .ok .non M' => .ok (.ref M.length) M'
      | .exc c M' => .exc c M'
      | _ => .stuck)
  | .blt f as, ρ, M => (evalL as ρ M).bind fun ds M => bltF f ds M
  | .bm f a as, ρ, M => (eval a ρ M).bind fun x M => if bmOk f M x then (evalL as ρ M).bind fun ds M => bmF f x ds M else .stuck
  | .isi a T, ρ, M => (eval a ρ M).bind fun x M => R.ofB (isTy M T x) M
  | .comp m own t k src c e, ρ, M => (evalL src ρ M).bind fun ds M => (match items k ds M with
      | some xs => (compL ds M (fun x M => match asg t x (wipe ρ own) with
          | some ρ' => (if c.isNil then .ok true M else (eval c ρ' M).bind toTest).bind fun b M => if b then (eval e ρ' M).bind fun d M => .ok (some d) M else .ok none M
          | none => .stuck) xs [] M).bind fun ys M => newL m ys M
      | none => .stuck)
  | .nil, _, _ => .stuck
  | .cons _ _, _, _ => .stuck
def evalL : E → Env → Mem → R (List D)
  | .nil, _, M => .ok [] M
  | .cons a as, ρ, M => (eval a ρ M).bind fun d M => (evalL as ρ M).bind fun ds M => .ok (d :: ds) M
  | _, _, _ => .stuck
end
end

/-! ### statements -/
inductive S where
  | done | seq (s t : S) | pass | brk | cnt
  | expr (e : E) | asg (t : Tg) (e : E) | par (i j : Nat) (a b : E) | sti (a b e : E) | stf (a : E) (f : Nat) (e : E)
  | ret (e : E) | retN | ite (c : E) (s t : S)
  | for (t : Tg) (k : ItK) (src : E) (b : S) | whl (n : Nat) (c : E) (b : S)
  | rai (c : Nat) | try (b h : S) | hd (c : Nat) (h t : S)

def R.toF {α : Type} (r : R α) (ρ : Env) (k : α → Mem → F) : F := match r with
  | .ok a M => k a M
  | .exc c M => .ex c ρ M
  | .stuck => .stuck
@[simp] theorem R.toF_ok {α : Type} (a : α) (M : Mem) (ρ : Env) (k : α → Mem → F) : (R.ok a M).toF ρ k = k a M := rfl
@[simp] theorem R.toF_exc {α : Type} (c : Nat) (M : Mem) (ρ : Env) (k : α → Mem → F) : (R.exc c M : R α).toF ρ k = .ex c ρ M := rfl
@[simp] theorem R.toF_stuck {α : Type} (ρ : Env) (k : α → Mem → F) : (R.stuck : R α).toF ρ k = .stuck := rfl
def fPut (f : Nat) (v : D) : List (Nat × D) → List (Nat × D)
  | [] => [(f, v)]
  | (g, x) :: r => if g = f then (g, v) :: r else (g, x) :: fPut f v r
def setIt (M : Mem) (x y v : D) : Option Mem := match x with
  | .ref n => (match M[n]? with
    | some (.lst xs) => (match y with
      | .int k => (match L2.ixN xs.length k with | some j => some (M.set n (.lst (xs.set j v))) | none => none)
      | _ => none)
    | some (.dK kvs) => (match keyOf y with
      | some q => if kvs.length < big then some (M.set n (.dK (dPut kvs q v))) else none
      | none => none)
    | _ => none)
  | _ => none
/-- a for's turns -/
def forL (ds : List D) (M0 : Mem) (g : D → Env → Mem → F) : List D → Env → Mem → F
  | [], ρ, M => if still ds M0 M then .nx ρ M else .stuck
  | x :: xs, ρ, M => if still ds M0 M then (match g x ρ M with
      | .nx ρ' M' => forL ds M0 g xs ρ' M'
      | .ct ρ' M' => forL ds M0 g xs ρ' M'
      | .bk ρ' M' => .nx ρ' M'
      | .rt d M' => .rt d M'
      | .ex c ρ' M' => .ex c ρ' M'
      | .stuck => .stuck) else .stuck
/-- a while's turns -/
def whlL (c : Env → Mem → R Bool) (g : Env → Mem → F) : Nat → Env → Mem → F
  | 0, _, _ => .stuck
  | n + 1, ρ, M => (c ρ M).toF ρ fun b M => if b then (match g ρ M with
      | .nx ρ' M' => whlL c g n ρ' M'
      | .ct ρ' M' => whlL c g n ρ' M'
      | .bk ρ' M' => .nx ρ' M'
      | .rt d M' => .rt d M'
      | .ex c ρ' M' => .ex c ρ' M'
      | .stuck => .stuck) else .nx ρ M
def noEx : F → F
  | .ex _ _ _ => .stuck
  | f => f
section
variable (gl : Nat → Option D) (cf : CF) (sub : Nat → Nat → Option Bool)
mutual
def exec : S → Env → Mem → F
  | .done, ρ, M => .nx ρ M
  | .seq s t, ρ, M => (match exec s ρ M with
    | .nx ρ' M' => exec t ρ' M'
    | .rt d M' => .rt d M'
    | .bk ρ' M' => .bk ρ' M'
    | .ct ρ' M' => .ct ρ' M'
    | .ex c ρ' M' => .ex c ρ' M'
    | .stuck => .stuck)
  | .pass, ρ, M => .nx ρ M
  | .brk, ρ, M => .bk ρ M
  | .cnt, ρ, M => .ct ρ M
  | .expr e, ρ, M => (eval gl cf e ρ M).toF ρ fun _ M => .nx ρ M
  | .asg t e, ρ, M => (eval gl cf e ρ M).toF ρ fun x M => (match MP.asg t x ρ with | some ρ' => .nx ρ' M | none => .stuck)
  | .par i j a b, ρ, M => (eval gl cf a ρ M).toF ρ fun x M => (eval gl cf b ρ M).toF ρ fun y M => .nx ((ρ.set i (some x)).set j (some y)) M
  | .sti a b e, ρ, M => (eval gl cf e ρ M).toF ρ fun v M => (eval gl cf a ρ M).toF ρ fun x M => (eval gl cf b ρ M).toF ρ fun y M => (match setIt M x y v with | some M' => .nx ρ M' | none => .stuck)
  | .stf a f e, ρ, M => (eval gl cf e ρ M).toF ρ fun v M => (eval gl cf a ρ M).toF ρ fun x M => (match x with
    | .ref n => (match M[n]? with
      | some (.ins C fs) => if fs.length < 1000 then .nx ρ (M.set n (.ins C (fPut f v fs))) else .stuck
      | _ => .stuck)
    | _ => .stuck)
  | .ret e, ρ, M => (eval gl cf e ρ M).toF ρ fun d M => .rt d M
  | .retN, _, M => .rt .non M
  | .ite c s t, ρ, M => ((eval gl cf c ρ M).bind toTest).toF ρ fun b M => if b then exec s ρ M else exec t ρ M
  | .for t k src b, ρ, M => (evalL gl cf src ρ M).toF ρ fun ds M => (match items k ds M with
    | some xs => forL ds M (fun x ρ M => match MP.asg t x ρ with | some ρ' => exec b ρ' M | none => .stuck) xs ρ M
    | none => .stuck)
  | .whl n c b, ρ, M => whlL (fun ρ M => (eval gl cf c ρ M).bind toTest) (fun ρ M => exec b ρ M) n ρ M
  | .rai c, ρ, M => .ex c ρ M
  | .try b h, ρ, M => (match exec b ρ M with
    | .ex c' ρ' M' => execH h c' ρ' M'
    | .nx ρ' M' => .nx ρ' M'
    | .rt d M' => .rt d M'
    | .bk ρ' M' => .bk ρ' M'
    | .ct ρ' M' => .ct ρ' M'
    | .stuck => .stuck)
  | .hd _ _ _, _, _ => .stuck
/-- except clauses: an exception within a clause is not followed -/
def execH : S → Nat → Env → Mem → F
  | .hd c h t, c', ρ, M => (match sub c' c with
    | some true => noEx (exec h ρ M)
    | some false => execH t c' ρ M
    | none => .stuck)
  | .done, c', ρ, M => .ex c' ρ M
  | _, _, _, _ => .stuck
end
end

/-! ### programs -/
structure Fn where
  np : Nat
  ns : Nat
  keep : Bool
  body : S
structure Prog where
  funs : List Fn
  gl : Nat → Option D
  sub : List (List Bool)
def Prog.subAt (P : Prog) (c' c : Nat) : Option Bool := match P.sub[c']? with
  | some r => r[c]?
  | none => none
def close (keep : Bool) (M : Mem) (d : D) (M' : Mem) : R D :=
  if keep then .ok d M' else if d.under M.length then (match drop M M' with | some M2 => .ok d M2 | none => .stuck) else .stuck
def fin (keep : Bool) (M : Mem) : F → R D
  | .nx _ M' => close keep M .non M'
  | .rt d M' => close keep M d M'
  | .ex c _ M' => if keep then .exc c M' else (match drop M M' with | some M2 => .exc c M2 | none => .stuck)
  | _ => .stuck
def start (ns : Nat) (ds : List D) : Env := ds.map some ++ List.replicate (ns - ds.length) none
def callF (P : Prog) : Nat → CF
  | 0 => fun _ _ _ => .stuck
  | n + 1 => fun f ds M => match P.funs[f]? with
    | some fn => if ds.length = fn.np then fin fn.keep M (exec P.gl (callF P n) P.subAt fn.body (start fn.ns ds) M) else .stuck
    | none => .stuck
end MP

/-! Mp2x: rules that the layer lacks: tuples that are known to their object, dict(tuple), sorted(dict of ints), in over a tuple of any data, lists by Rd, enumerate(tuple). -/
namespace MP
open PySem PySem.Spec PyProof.Rows L2 HT

section
variable {X : Cx} {es : List Expr} {t : TA} {pos : Pos}
/-- a tuple whose object is known: it has no dict -/
def tTupZ (t : TA) : TE := fun σ H Q => t σ H fun xs H1 => xs.length ≤ sizeLine ∧ ∀ p o, H1 p = none → o.dict = none → Q (.ref p) (upd H1 p (.frz o (.tup xs)))
theorem pe_tupZ {x1} (h : PA X es t) : PE X (.Tuple es x1 pos) (tTupZ t) := by
  refine ⟨fun pins s σ H Q I hq => ?_⟩
  refine wpAny_Tuple_spliced (thn (h.run pos pins s σ H _ I hq) fun us s1 ⟨xs, H1, I1, r, z, q⟩ => ⟨by rw [← r.length]; exact z, ?_⟩)
  have hf : H1 s1.heap.objs.size = none := I1.hok.fresh (Nat.le_refl _)
  refine ⟨.ref s1.heap.objs.size, _, I1.laid (o := .frz { cls := .type "tuple", data := .seq us.toArray } (.tup xs)) (t' := s1.toks) (fun b u e => Heap.get?_push_of_some _ e) (Nat.le_refl _) ?_, rfl, q _ _ hf ?_⟩
  · exact ⟨Heap.get?_push_size _ rfl, z, us, r, ⟨_, Heap.get?_push_size _ rfl, rfl, _, rfl⟩⟩
  · rfl
theorem call_tupleZ : CallR X (.type "tuple") (fun xs H Q => ∃ p ys, xs = [.ref p] ∧ ((SqL X.K H p ys ∧ ∀ l o, H l = none → o.dict = none → Q (.ref l) (upd H l (.frz o (.tup ys)))) ∨ (SqT X.K H p ys ∧ Q (.ref p) H))) := by
  intro pins s σ H xs us Q I r h
  obtain ⟨p, ys, rfl, h⟩ := h
  obtain ⟨u, rfl, rx⟩ := vals1 r
  cases rx
  rcases h with ⟨hq, q⟩ | ⟨hq, q⟩
  · obtain ⟨its, r', pl, hz⟩ := I.list hq
    have hlen := r'.length
    refine call_tuple_list pl.isList (fun h' kp => ?_) (by simp only [List.size_toArray] <;> omega)
    have I1 : Inv X pins σ H { s with heap := h' } := I.kept (t' := s.toks) kp
    have I2 : Inv X pins σ (upd H h'.objs.size (.frz { cls := .type "tuple", data := .seq its.toArray } (.tup ys))) { s with heap := h'.push { cls := .type "tuple", data := .seq its.toArray } } :=
      I1.laid (t' := s.toks) (fun b o e => Heap.get?_push_of_some _ e) (Nat.le_refl _) (show ObjOk X.prog X.w _ _ _ (.frz _ (.tup ys)) from ⟨Heap.get?_push_size _ rfl, hz, its, r', IsTup.new _ _⟩)
    exact ⟨.ref h'.objs.size, _, I2, rfl, q _ _ (I1.hok.fresh (Nat.le_refl _)) rfl⟩
  · obtain ⟨its, r', pl, hz⟩ := I.tuple hq
    exact call_tuple_same pl ⟨.ref p, H, I, rfl, q⟩
def rCatZ (K : PySem.W.Frag) : R2 := fun x y H Q => ∃ a b xs ys, x = .ref a ∧ y = .ref b ∧ SqT K H a xs ∧ SqT K H b ys ∧ xs.length + ys.length ≤ sizeLine ∧
  (xs = [] → Q (.ref b) H) ∧ (xs ≠ [] → ys = [] → Q (.ref a) H) ∧ (xs ≠ [] → ys ≠ [] → ∀ p o, H p = none → o.dict = none → Q (.ref p) (upd H p (.frz o (.tup (xs ++ ys)))))
theorem op_catZ : OpR X (binaryOp .Add) (rCatZ X.K) := by
  intro pins s σ H x y v u Q I rx ry h
  obtain ⟨a, b, xs, ys, rfl, rfl, ha, hb, hz, q0, q1, q2⟩ := h
  cases rx
  cases ry
  obtain ⟨its, r1, p1, _⟩ := I.tuple ha
  obtain ⟨its2, r2, p2, _⟩ := I.tuple hb
  by_cases hx : xs = []
  · subst hx
    cases r1
    exact cat_tup0 p1 p2 ⟨.ref b, H, I, rfl, q0 rfl⟩
  · have hi : its ≠ [] := fun z => hx ((Vals.nil_iff r1).mp z)
    refine cat_tup p1 p2 hi (fun hw => ⟨.ref a, H, I, rfl, q1 hx ((Vals.nil_iff r2).mp hw)⟩) (fun hw => ?_) (by rw [← r1.length, ← r2.length]; exact hz)
    refine ⟨.ref _, _, I.laid (o := .frz { cls := .type "tuple", data := .seq (its ++ its2).toArray } (.tup (xs ++ ys))) (t' := s.toks) (fun b o e => Heap.get?_push_of_some _ e) (Nat.le_refl _) ?_, rfl, q2 hx (fun z => hw ((Vals.nil_iff r2).mpr z)) _ _ (I.hok.fresh (Nat.le_refl _)) ?_⟩
    · exact ⟨Heap.get?_push_size _ rfl, by rw [List.length_append]; exact hz, its ++ its2, r1.append r2, IsTup.new _ _⟩
    · rfl
def rSlZ (K : PySem.W.Frag) : V → Option Int → Option Int → Hp → VK → Prop := fun x lo hi H Q => ∃ a xs, x = .ref a ∧ SqT K H a xs ∧
  (HT.sIx xs.length 0 lo = 0 ∧ HT.sIx xs.length xs.length hi = xs.length → Q (.ref a) H) ∧ (¬ (HT.sIx xs.length 0 lo = 0 ∧ HT.sIx xs.length xs.length hi = xs.length) → ∀ p o, H p = none → o.dict = none → Q (.ref p) (upd H p (.frz o (.tup (cutV xs lo hi)))))
theorem sl_tupZ : SlR X (rSlZ X.K) := by
  intro pins s σ H x v vl vu lo hi sl Q I rx hs pl pu h
  obtain ⟨a, xs, rfl, hx, q1, q2⟩ := h
  cases rx
  obtain ⟨its, r, ht, hz⟩ := I.tuple hx
  have hlen : its.toArray.size = xs.length := by rw [List.size_toArray]; exact r.length.symm
  refine ⟨"tuple", _, PyProof.Rows.slot_tuple_getitem.lookup, ht.typeIs, ?_⟩
  by_cases hw : HT.sIx xs.length 0 lo = 0 ∧ HT.sIx xs.length xs.length hi = xs.length
  · exact getItem_tuple_whole ht hs pl pu (by rw [hlen]; exact hw) ⟨.ref a, H, I, rfl, q1 hw⟩
  · refine getItem_tuple_cut ht hs pl pu (by rw [hlen]; exact hw) ?_ (by rw [hlen]; exact hz)
    refine ⟨.ref _, _, I.laid (o := .frz { cls := .type "tuple", data := .seq ((its.toArray.toList.drop (sIx its.toArray.size 0 lo)).take (sIx its.toArray.size its.toArray.size hi - sIx its.toArray.size 0 lo)).toArray } (.tup (cutV xs lo hi))) (t' := s.toks) (fun b o e => Heap.get?_push_of_some _ e) (Nat.le_refl _) ?_, rfl, q2 hw _ _ (I.hok.fresh (Nat.le_refl _)) ?_⟩
    · refine ⟨Heap.get?_push_size _ rfl, Nat.le_trans (cutV_length _ _ _) hz, _, ?_, IsTup.new _ _⟩
      show Vals (cutV xs lo hi) _
      rw [hlen]
      unfold cutV
      exact (r.drop _).take _
    · rfl

/-! ### lists, read by Rd -/
theorem _root_.L2.Inv.lstR {pins : List (Addr × Obj)} {σ : L2.St} {H : Hp} {s : Shared} {l : Addr} {xs : List V} (I : Inv X pins σ H s) (hH : Rd H l (.lst xs)) :
    xs.length ≤ sizeLine ∧ ∃ (its : List Value) (n : Nat), Vals xs its ∧ xs.length = its.length ∧ s.heap.get? l = some { cls := .type "list", data := .seq its.toArray n } := by
  obtain ⟨z, its, n, r, e⟩ := hH.ok I.hok
  exact ⟨z, its, n, r, r.length, e⟩
def rCatR : R2 := fun x y H Q => ∃ l b xs zs, x = .ref l ∧ y = .ref b ∧ Rd H l (.lst xs) ∧ Rd H b (.lst zs) ∧ xs.length + zs.length ≤ sizeLine ∧ ∀ p, H p = none → Q (.ref p) (upd H p (.lst (xs ++ zs)))
theorem op_catR : OpR X (binaryOp .Add) rCatR := by
  intro pins s σ H x y v u Q I rx ry h
  obtain ⟨l, b, xs, zs, rfl, rfl, hH, hB, hz, q⟩ := h
  cases rx
  cases ry
  obtain ⟨z, its, n, r, hl, e⟩ := I.lstR hH
  obtain ⟨z2, its2, n2, r2, hl2, e2⟩ := I.lstR hB
  refine PySem.P.add_list e e2 ?_ (by rw [List.size_toArray, List.size_toArray]; omega)
  have ea : its.toArray ++ its2.toArray = (its ++ its2).toArray := by simp
  rw [ea]
  exact ⟨.ref _, _, I.lnew (t' := s.toks) (r.append r2) (by rw [List.length_append]; omega), rfl, q _ I.fresh⟩
def rExtendR : V → List V → Hp → VK → Prop := fun x vs H Q => ∃ l b xs zs, x = .ref l ∧ vs = [.ref b] ∧ H l = some (.lst xs) ∧ Rd H b (.lst zs) ∧ xs.length + zs.length ≤ sizeLine ∧ Q .non (upd H l (.lst (xs ++ zs)))
theorem mt_extendR : MtM X "list.extend" rExtendR := by
  intro pins s σ H x vs v us Q I rx rv h
  obtain ⟨l, b, xs, zs, rfl, rfl, hH, hB, hz, q⟩ := h
  cases rx
  obtain ⟨u, rfl, ru⟩ := rv.one
  cases ru
  obtain ⟨z, its, n, r, hl, e⟩ := I.lstM hH
  obtain ⟨z2, its2, n2, r2, hl2, e2⟩ := I.lstR hB
  have hsz : its.toArray.size + its2.toArray.size ≤ sizeLine := by rw [List.size_toArray, List.size_toArray]; omega
  have hlong : ¬ (!its.toArray.isEmpty && Builtin.List.listTooLong (its.toArray.size + its2.toArray.size)) = true := by
    rw [notLongL hsz, Bool.and_false]
    exact Bool.false_ne_true
  refine call_meets F.slot_list_extend ⟨_, e, rfl⟩ F.entry_list_extend (F.args_list_extend_2 _ _)
    (AutoSeq1.list_extend_list_list_0 l its.toArray n b its2.toArray n2 hlong (by rw [List.size_toArray]; omega) (by omega)) ⟨e, e2, ?_⟩
  refine ⟨.non, _, I.lset (its' := its ++ its2) hH e (by simp) (r.append r2) ?_, rfl, q⟩
  rw [List.length_append]
  omega
def rRepR : R2 := fun x y H Q => ∃ l k xs, x = .ref l ∧ y = .int k ∧ Rd H l (.lst xs) ∧ -(2 ^ 63) ≤ k ∧ k < 2 ^ 63 ∧ xs.length * k.toNat ≤ sizeLine ∧
  ∀ p, H p = none → Q (.ref p) (upd H p (.lst (List.replicate k.toNat xs).flatten))
theorem op_repR : OpR X (binaryOp .Mult) rRepR := by
  intro pins s σ H x y v u Q I rx ry h
  obtain ⟨l, k, xs, rfl, rfl, hH, h1, h2, hz, q⟩ := h
  cases rx
  obtain ⟨t, rfl⟩ := ry
  obtain ⟨z, its, n, r, hl, e⟩ := I.lstR hH
  have hlen : its.toArray.size * k.toNat ≤ sizeLine := by rw [List.size_toArray, ← hl]; exact hz
  have hcap : ¬ its.toArray.size * k.toNat > (2 ^ 63 - 1) / 8 := by
    have : (sizeLine : Nat) ≤ (2 ^ 63 - 1) / 8 := by decide
    omega
  have hfit : ¬ (!Builtin.List.listFitsIndex k) = true := by
    rw [fitsIndex_both h1 h2]
    exact Bool.false_ne_true
  have hlong : ¬ Builtin.List.listTooLong (its.toArray.size * k.toNat) = true := by
    rw [notLongL hlen]
    exact Bool.false_ne_true
  have hnew : List.foldl (fun x1 x2 => x1 ++ x2) #[] (List.replicate (if its.toArray.isEmpty = true then 0 else k.toNat) its.toArray) = (List.replicate k.toNat its).flatten.toArray := by
    have f0 : ∀ m : Nat, List.foldl (fun x1 x2 => x1 ++ x2) #[] (List.replicate m its.toArray) = (List.replicate m its).flatten.toArray := fun m => by
      have := foldl_rep its m []
      rw [List.nil_append] at this
      exact this
    rw [f0]
    cases its with
    | nil => simp
    | cons a r' => rw [if_neg (by simp)]
  refine wpAny_binaryOp_repeat_ref (T := "list") (U := "int") (by decide) ⟨_, e, rfl⟩ (fun s' => typeIs_int s' k t) noFill_list_mul F.fills_int_mul F.slot_int_rmul repeat_list F.slot_int_index.lookup
    (call_meets F.slot_int_rmul (typeIs_int s k t) F.entry_int_rmul (F.args_int_rmul_2 _ _) (int___rmul___int_list k t l its.toArray n)
      ⟨e, rfl, ⟨_, e, rfl⟩, call_meets F.slot_list_mul ⟨_, e, rfl⟩ F.entry_list_mul (F.args_list_mul_2 _ _) (AutoListH.list___mul___list_int_3 l its.toArray n k t hfit hcap hlong) ⟨e, ?_⟩⟩)
  rw [hnew]
  exact ⟨.ref _, _, I.lnew (t' := s.toks) (r.rep k.toNat) (by rw [PyProof.Rows.lm_len_rep_flat, Nat.mul_comm]; exact hz), rfl, q _ I.fresh⟩
/-! ### in over tuples and lists of any data -/
def rInT (K : PySem.W.Frag) (neg : Bool) : R2 := fun x y H Q => ∃ d ds, Dp K H x d ∧ Dp K H y (.tuple ds) ∧ SeqAt.shaped d = true ∧ SeqAt.shaped (.tuple ds) = true ∧ Q (.bl (if neg then !(ds.any fun z => PyData.eqv z d) else ds.any fun z => PyData.eqv z d)) H
theorem op_inT (hu : X.A.units + 65 < cLine) : OpR X (compareOp .In) (rInT X.K false) := by
  intro pins s σ H x y v u Q I rx ry h
  obtain ⟨d, ds, hd, he, sd, se, q⟩ := h
  obtain ⟨as, r1⟩ := Dp.reads I d x v hd rx
  obtain ⟨bs, r2⟩ := Dp.reads I (.tuple ds) y u he ry
  exact SeqAt.in_tuple_reads r2 r1 (SeqAt.canLay_of_shaped se) (SeqAt.canLay_of_shaped sd) (room_in_shaped sd hu) ⟨.bl _, H, I, rfl, q⟩
theorem op_notInT (hu : X.A.units + 65 < cLine) : OpR X (compareOp .NotIn) (rInT X.K true) := by
  intro pins s σ H x y v u Q I rx ry h
  obtain ⟨d, ds, hd, he, sd, se, q⟩ := h
  obtain ⟨as, r1⟩ := Dp.reads I d x v hd rx
  obtain ⟨bs, r2⟩ := Dp.reads I (.tuple ds) y u he ry
  exact SeqAt.notIn_tuple_reads r2 r1 (SeqAt.canLay_of_shaped se) (SeqAt.canLay_of_shaped sd) (room_in_shaped sd hu) ⟨.bl _, H, I, rfl, q⟩
/-! ### d[k] by values -/
theorem ix_dict (hu : X.A.units + 1 < cLine) : IxR X (fun x y H Q => ∃ a v, x = .ref a ∧ DGet H a y (some v) ∧ Q v H) := by
  intro value slice pins s σ H x y v u Q I rx ry h hs
  obtain ⟨a, w', rfl, g, q⟩ := h
  obtain rfl : v = Value.ref a := rx
  have hT := dict_typeIs I g
  unfold subscriptTail
  refine wpAny_bind ?_
  rw [getitemInPython_of_ne hT.not_modules]
  refine wpAny_bind (wpAny_specialOf hT PySem.F.slot_dict_getitem.lookup ?_)
  have fin : wpAny (model X.prog X.w) X.A (subscripted slice false (.ref a) u) (fun r s₃ => wpAny (model X.prog X.w) X.A (letTemporaryGo value (.ref a) r >>= fun _ => pure r) (EP X pins σ Q) X.xe s₃) X.xe s := by
    rw [hs]
    exact wpAny_operating (wpAny_mono (d_getItem hu I g ry fun w2 s3 I3 rw' => (⟨w', H, I3, rw', q⟩ : EP X pins σ Q w2 s3)) (fun r s₃ h₃ => wpAny_bind (wpAny_letTemporaryGo (wpAny_pure h₃))) fun _ _ x => x)
  first
    | exact wpAny_pure (wpAny_bind fin)
    | exact wpAny_bind (wpAny_pure (wpAny_bind fin))
    | exact wpAny_bind fin
/-! ### dict(tuple of pairs) -/
theorem call_dictZ (hcalm : X.calm = true) : CallR X (.type "dict") (fun xs H Q => ∃ (a : Addr) (o : Obj) (ps : List Addr) (kvs : List (Key × V)), xs = [.ref a] ∧ H a = some (.frz o (.tup (ps.map V.ref))) ∧ o.dict = none ∧ Paired (fun p kv => SqT X.K H p [kV kv.1, kv.2]) ps kvs ∧
    ∀ p, H p = none → Q (.ref p) (upd H p (.dK (mergeK [] kvs)))) := by
  intro pins s σ H xs us Q I r q
  obtain ⟨a, o, ps, kvs, ex, hq, hod, hp, q⟩ := q
  subst ex
  obtain ⟨u, eu, rx⟩ := vals1 r
  subst eu
  cases rx
  obtain ⟨ho, hz, its, rv, ⟨o', ho', hc, n, hdat⟩⟩ := I.hok a _ hq
  rw [ho] at ho'
  cases ho'
  have ei := refs_at rv
  subst ei
  rw [List.length_map] at hz
  obtain ⟨prs, rel, hl, hpr⟩ := pairs_of I hp
  obtain ⟨psv, hpsv⟩ : ∃ psv : List (Value × Value), psv.length = prs.length ∧ ∀ (j : Nat) (k v : Value), psv[j]? = some (k, v) → ∃ q, prs[j]? = some q ∧ q.2 = v ∧ keyIs q.1 k = true ∧ ∃ b, ps[j]? = some b ∧ IsTup s.heap b #[k, v] := by
    have : ∀ (pr : List (Key × Value)) (qs : List Addr), (∀ (j : Nat) (q : Key × Value), pr[j]? = some q → ∃ (b : Addr) (u : Value), qs[j]? = some b ∧ IsTup s.heap b #[u, q.2] ∧ keyIs q.1 u = true) →
        ∃ psv : List (Value × Value), psv.length = pr.length ∧ ∀ (j : Nat) (k v : Value), psv[j]? = some (k, v) → ∃ q, pr[j]? = some q ∧ q.2 = v ∧ keyIs q.1 k = true ∧ ∃ b, qs[j]? = some b ∧ IsTup s.heap b #[k, v] := by
      intro pr
      induction pr with
      | nil => intro qs h; exact ⟨[], rfl, fun j k v e => by simp at e⟩
      | cons q0 pr ih =>
        intro qs h
        obtain ⟨b, u, e1, e2, e3⟩ := h 0 q0 rfl
        obtain ⟨psv, l1, l2⟩ := ih (qs.drop 1) fun j q e => by
          obtain ⟨b, u, f1, f2, f3⟩ := h (j + 1) q (by simpa using e)
          exact ⟨b, u, by rw [List.getElem?_drop, Nat.add_comm]; exact f1, f2, f3⟩
        refine ⟨(u, q0.2) :: psv, by simp [l1], fun j k v e => ?_⟩
        cases j with
        | zero =>
          simp at e
          obtain ⟨rfl, rfl⟩ := e
          exact ⟨q0, rfl, rfl, e3, b, e1, e2⟩
        | succ j =>
          obtain ⟨q, g1, g2, g3, b, g4, g5⟩ := l2 j k v (by simpa using e)
          exact ⟨q, by simpa using g1, g2, g3, b, by rw [List.getElem?_drop, Nat.add_comm] at g4; exact g4, g5⟩
    exact this prs ps hpr
  obtain ⟨hlp, hpsv⟩ := hpsv
  refine PySem.call_dict_pairs (knd := mixKind X.prog X.w) (kvs := prs) (PairArg.tuple a (ps.map Value.ref).toArray (fun j => ps.getD j 0) psv) (I.ok.hd hcalm) ⟨⟨o, n, ho, hc, hod, hdat⟩, ?_, fun j k v e => ?_⟩ ⟨hlp.symm, fun i key v hr => ?_⟩ (by rw [hlp, hl]; exact hz) fun h' tk hd' k => ?_
  · simp [hlp, hl]
  · obtain ⟨q, g1, g2, g3, b, g4, g5⟩ := hpsv j k v e
    have hb : ps.getD j 0 = b := by rw [List.getD_eq_getElem?_getD, g4]; rfl
    refine ⟨by simp [g4], .inl ?_⟩
    show s.heap.IsTuple (ps.getD j 0) #[k, v]
    rw [hb]
    exact g5
  · obtain ⟨q, g1, g2, g3, b, g4, g5⟩ := hpsv i key v hr
    exact ⟨q.1, by rw [g1, ← g2], g3⟩
  · have hm : (s.heap.objs.size == sysModules) = false := beq_eq_false_iff_ne.mpr (Nat.ne_of_gt I.big)
    have hlen : (mergeK [] kvs).length ≤ sizeLine := by
      refine Nat.le_trans (length_mergeK kvs []) ?_
      rw [List.length_nil, Nat.zero_add, rel.length, hl]
      exact hz
    exact ⟨.ref s.heap.objs.size, upd H s.heap.objs.size (.dK (mergeK [] kvs)), I.laid (t' := tk) (fun b ob e => k b ob (by simp) e) (Nat.le_refl _) (show ObjOk X.prog X.w _ _ _ (.dK (mergeK [] kvs)) from ⟨hlen, hm, merged [] prs, KV.merge rel .nil, hd'⟩), rfl, q _ (I.hok.fresh (Nat.le_refl _))⟩
/-! ### sorted(dict with int keys) -/
theorem call_sortedDI (hcalm : X.calm = true) : CallR X (.builtin "sorted") (fun xs H Q => ∃ (a : Addr) (kvs : List (Key × V)) (ks : List Int), xs = [.ref a] ∧ Rd H a (.dK kvs) ∧ kvs.map (·.1) = ks.map Sum.inl ∧
    ∀ (ys : List Int) (p : Addr), ys.Perm ks → ys.Pairwise (· ≤ ·) → H p = none → Q (.ref p) (upd H p (.lst (ys.map V.int)))) := by
  intro pins s σ H xs us Q I r q
  obtain ⟨a, kvs, ks, ex, hd, hks, q⟩ := q
  subst ex
  obtain ⟨u, eu, rx⟩ := vals1 r
  subst eu
  cases rx
  obtain ⟨z, lo, vs, rel, dd⟩ := dk_rd I.hok hd
  obtain ⟨ep, hat⟩ := dd.dictAt
  have hkeys : vs.map (·.1) = ks.map Sum.inl := rel.keys.symm.trans hks
  have hl : vs.length = ks.length := by
    have e := congrArg List.length hkeys
    rw [List.length_map, List.length_map] at e
    exact e
  have h16 : vs.length ≤ sizeLine := by rw [← rel.length]; exact z
  refine Calls.call_function_entry PyProof.Rows.kind_sorted PyProof.Rows.plain_sorted PyProof.Rows.entry_sorted (PyProof.Rows.args_sorted1 _) ?_
  unfold Builtin.«sorted»
  refine wpAny_bind (m := checkCount "sorted" 1 1 _) (wpAny_pure ?_)
  refine wpAny_bind (PySem.W.kdu_collect (A := X.A.in1) (PySem.W.kdl_dict (knd := mixKind X.prog X.w) (kvs := vs) (ep := ep) lo) (I.ok.hd hcalm) hat h16 fun h' tk acc hk hacc => ?_)
  have hal : acc.toList.length = ks.length := by rw [Array.length_toList, hacc.1, hl]
  have hV : Vals (ks.map V.int) acc.toList := by
    refine vals_of_at (by rw [List.length_map, hal]) fun j x u e1 e2 => ?_
    obtain ⟨k, x', e3, e4⟩ := hacc.2 j u (by rw [← Array.getElem?_toList]; exact e2)
    have e5 : (vs.map (·.1))[j]? = some k := by rw [List.getElem?_map, e3]; all_goals rfl
    rw [hkeys, List.getElem?_map] at e5
    rw [List.getElem?_map] at e1
    cases e6 : ks[j]? with
    | none => rw [e6] at e5; cases e5
    | some y =>
      rw [e6] at e5 e1
      have e7 : Sum.inl y = k := Option.some.inj e5
      have e8 : V.int y = x := Option.some.inj e1
      subst e7 e8
      obtain ⟨t, ev⟩ := Value.isInt_shape (k := y) (v := u) e4
      exact ⟨t, ev⟩
  have hi := hV.ints
  have I1 : Inv X pins σ H { s with heap := h', toks := tk } := I.kept hk
  refine wpAny_bind (wpAny_newList ?_ (by rw [hal, ← hl]; exact h16))
  have hoL : (h'.push (seqObj "list" acc.toList.toArray 0)).get? h'.objs.size = some (seqObj "list" acc.toList.toArray 0) := Heap.get?_push_size _ rfl
  show wpAny _ _ _ _ _ { s with heap := h'.push (seqObj "list" acc.toList.toArray 0), toks := tk }
  refine wpAny_bind (wpAny_holding (wpAny_call_entry PyProof.Rows.slot_list_sort ⟨_, hoL, rfl⟩ PyProof.Rows.entry_list_sort
    (SrtO.list_sort_ord SrtO.swo_int (s := { s with heap := h'.push (seqObj "list" acc.toList.toArray 0), toks := tk }) hoL (by rw [hal, ← hl]; exact h16) (fun h2 => SrtO.ints_sortable hi h2) fun out h1 h2 => ⟨_, rfl, ?_⟩)
    (PyProof.Rows.args_list_sort _)))
  obtain ⟨k1, k2, k3⟩ := SrtO.ints_out hi h1 h2
  obtain ⟨e', he'⟩ := PyProof.Rows.sortedHeap_at (vs := acc.toList) (out := out.toArray) hoL
  have hlen : ((out.map SrtO.iv).map V.int).length ≤ sizeLine := by
    rw [List.length_map, k2.length_eq, ← hl]
    exact h16
  refine wpAny_pure ⟨_, rfl, .ref h'.objs.size, upd H h'.objs.size (.lst ((out.map SrtO.iv).map V.int)), I1.laid (t' := tk) (fun b u e => ?_) (Nat.le_refl _) ⟨hlen, out, e', vals_of_ints k1, he'⟩, rfl, q _ _ k2 k3 (I1.hok.fresh (Nat.le_refl _))⟩
  have hb : b ≠ h'.objs.size := Nat.ne_of_lt (Heap.lt_size e)
  have hu := Heap.get?_push_of_some (seqObj "list" acc.toList.toArray 0) e
  rw [PyProof.Rows.sortedHeap_old hb (Heap.lt_size hu)]
  exact hu
end
end MP

/-! Mp2v: t[::-1] of a tuple. -/
namespace MP
open PySem PySem.Spec PyProof.Rows L2 HT
section
variable {prog : Program} {w : World} {A : Around} {E : Value → Shared → Prop} {s : Shared}
theorem adj_back (n : Nat) : Builtin.Slice.sliceAdjust none none (-1) (n : Int) = ((n : Int) - 1, -1) := rfl
theorem places_back (n : Nat) : Builtin.Slice.slicePlaces ((n : Int) - 1) (-1) (-1) = n := by
  unfold Builtin.Slice.slicePlaces
  rw [if_neg (show ¬ ((-1 : Int) > 0) by decide)]
  by_cases h : (n : Int) - 1 > -1
  · rw [if_pos h, show (- -1 : Int) = 1 by decide, Int.ediv_one]
    omega
  · rw [if_neg h]
    omega
theorem fm_congr {α β : Type} {f g : α → Option β} : ∀ {l : List α}, (∀ x ∈ l, f x = g x) → l.filterMap f = l.filterMap g
  | [], _ => rfl
  | x :: l, h => by
    rw [List.filterMap_cons, List.filterMap_cons, h x (List.mem_cons_self ..), fm_congr fun y hy => h y (List.mem_cons_of_mem _ hy)]
theorem pick_back (xs : Array Value) : ((List.range xs.size).filterMap fun (m : Nat) => xs[(((xs.size : Int) - 1) + (m : Int) * (-1)).toNat]?).toArray = xs.toList.reverse.toArray := by
  have e1 : ((List.range xs.size).filterMap fun (m : Nat) => xs[(((xs.size : Int) - 1) + (m : Int) * (-1)).toNat]?) = (((List.range xs.size).map fun m => xs.size - 1 - m).filterMap (xs[·]?)) := by
    rw [List.filterMap_map]
    refine fm_congr fun m hm => ?_
    have := List.mem_range.mp hm
    have e : (((xs.size : Int) - 1) + (m : Int) * (-1)).toNat = xs.size - 1 - m := by omega
    simp only [Function.comp, e]
  rw [e1, PySem.W.krv_range, List.filterMap_reverse, PySem.W.krv_all]
theorem applied_back {sl : Addr} {vk : Value} {n : Nat} {Q : Int × Int × Nat → Shared → Prop} (hs : s.heap.IsSliceOf sl .none .none vk) (pk : IsPart vk (some (-1))) (h : Q (((n : Int) - 1), -1, n) s) :
    wpAny (model prog w) A (Builtin.Slice.sliceApplied (.ref sl) (pure (n : Int))) Q E s := by
  obtain ⟨ob, hob, _, hdat⟩ := id hs
  unfold Builtin.Slice.sliceApplied Builtin.Slice.sliceFields
  refine wpAny_bind (wpAny_bind (wpAny_field hob hdat (x := .none) rfl ?_))
  refine wpAny_bind (wpAny_field hob hdat (x := .none) rfl (wpAny_bind (wpAny_field hob hdat (x := vk) rfl (wpAny_pure ?_))))
  refine wpAny_bind (slicePart_ pk ?_)
  show wpAny _ _ (if ((-1 : Int) == 0) = true then _ else _) _ _ s
  rw [if_neg (by decide)]
  refine wpAny_bind (slicePart_none (wpAny_bind (slicePart_none (wpAny_bind (wpAny_pure ?_)))))
  show wpAny _ _ (match Builtin.Slice.sliceAdjust none none (-1) (n : Int) with | (x, y) => pure (x, (-1 : Int), Builtin.Slice.slicePlaces x y (-1))) _ _ s
  rw [adj_back]
  show wpAny _ _ (pure ((n : Int) - 1, (-1 : Int), Builtin.Slice.slicePlaces ((n : Int) - 1) (-1) (-1))) _ _ s
  rw [places_back]
  exact wpAny_pure h
theorem getItem_back {t sl : Addr} {xs : Array Value} {vk : Value} {Q : Value → Shared → Prop} (ht : IsTup s.heap t xs) (hs : s.heap.IsSliceOf sl .none .none vk) (pk : IsPart vk (some (-1))) (hsz : xs.size ≤ sizeLine)
    (h : Q (.ref s.heap.objs.size) { s with heap := s.heap.push { cls := .type "tuple", data := .seq xs.toList.reverse.toArray } }) : wpAny (model prog w) A (getItem (.ref t) (.ref sl)) Q E s := by
  have hz : sizeOk (.seq xs.toList.reverse.toArray) := by
    show xs.toList.reverse.toArray.size ≤ sizeLine
    rw [List.size_toArray, List.length_reverse, Array.length_toList]
    exact hsz
  obtain ⟨ob, hob, hcl, _⟩ := id hs
  have hty : s.TypeIs (.ref sl) "slice" := ⟨ob, hob, hcl⟩
  unfold getItem
  try with_reducible refine wpAny_holding ?_
  first | refine wpAny_bind (wpAny_pure ?_) | skip
  refine wpAny_bind (wpAny_sequenceKey ht.typeIs (by decide) ?_)
  refine wpAny_bind (wpAny_callSpecial?_slot (name := Str.ofString "__getitem__") ht.typeIs PyProof.Rows.slot_tuple_getitem (wpAny_call_entry PyProof.Rows.slot_tuple_getitem ht.typeIs entry_tuple_getitem ?_ (args_tuple_getitem _ _)))
  show wpAny _ _ (Builtin.Tuple.tupleItemsOf (.ref t) >>= _) _ _ s
  refine wpAny_bind (tupleItemsOf_ ht (wpAny_bind (wpAny_typeOf hty ?_)))
  rw [if_pos (by decide)]
  refine wpAny_bind (applied_back hs pk ?_)
  have hno : ¬ ((((xs.size : Int) - 1) == 0 && (-1 : Int) == 1 && xs.size == xs.size) = true) := by simp
  show wpAny _ _ (if (((xs.size : Int) - 1) == 0 && (-1 : Int) == 1 && xs.size == xs.size) = true then _ else _) _ _ s
  rw [if_neg hno, pick_back]
  first
    | exact wpAny_bind (m := Builtin.Tuple.tupleExact _) (wpAny_newObj_type (wpAny_pure ⟨_, rfl, wpAny_pure h⟩) hz)
    | exact wpAny_bind (m := Builtin.Tuple.tupleExact _) (wpAny_newObj_type (wpAny_bind (wpAny_pure (wpAny_pure ⟨_, rfl, wpAny_pure h⟩))) hz)
    | exact wpAny_bind (wpAny_bind (m := Builtin.Tuple.tupleExact _) (wpAny_newObj_type (wpAny_pure (wpAny_pure ⟨_, rfl, wpAny_pure h⟩)) hz))
    | exact wpAny_bind (wpAny_bind (m := Builtin.Tuple.tupleExact _) (wpAny_newObj_type (wpAny_pure ⟨_, rfl, wpAny_pure h⟩) hz))
end
section
variable {X : Cx} {e : Expr} {te : TE} {pos p2 p3 p4 : Pos} {j : Nat}
def tBack (K : PySem.W.Frag) (te : TE) : TE := fun σ H Q => te σ H fun x H1 => ∃ a xs, x = .ref a ∧ SqT K H1 a xs ∧ ∀ p o, H1 p = none → o.dict = none → Q (.ref p) (upd H1 p (.frz o (.tup xs.reverse)))
theorem vals_back {xs : List V} {us : List Value} (r : Vals xs us) : Vals xs.reverse us.reverse := by
  induction r with
  | nil => exact .nil
  | cons a b ih =>
    rw [List.reverse_cons, List.reverse_cons]
    exact ih.append (.cons a .nil)
theorem pe_back (he : PE X e te) : PE X (.Subscript e (.Slice none none (some (.UnaryOp .USub (.Constant (.int 1) j p3) p4)) p2) pos) (tBack X.K te) := by
  refine ⟨fun pins s σ H Q I h => ?_⟩
  refine Subscript_ (thn (he.run pins s σ H _ I h) fun v s1 ⟨x, H1, I1, r1, a, xs, ex, hq, q⟩ => ?_)
  subst ex
  cases r1
  have hst : PO X (some (.UnaryOp .USub (.Constant (.int 1) j p3) p4)) (tPart (tUn (fun x H Q => ∃ i, x = .int i ∧ Q (.int (-i)) H) (tC (.int 1)))) := po_some (pe_un un_neg pe_int)
  refine wpAny_Slice (thn (po_none.run pins s1 σ H1 (fun o H' => o = none ∧ H' = H1) I1 ⟨rfl, rfl⟩) fun vl s2 ⟨l, H2, I2, pl, e1, e2⟩ => thn (po_none.run pins s2 σ H2 (fun o H' => o = none ∧ H' = H1) I2 ⟨rfl, e2⟩) fun vu s3 ⟨u, H3, I3, pu, e3, e4⟩ => thn (hst.run pins s3 σ H3 (fun o H' => o = some (-1) ∧ H' = H1) I3 ⟨1, rfl, -1, rfl, rfl, e4⟩) fun vk s4 ⟨k, H4, I4, pk, e5, e6⟩ => ?_)
  subst e1 e3 e5 e6
  cases pl
  cases pu
  have I5 : Inv X pins σ H4 { s4 with heap := s4.heap.push { cls := .type "slice", data := .fields #[.none, .none, vk] } } := I4.kept (t' := s4.toks) fun b ob z => Heap.get?_push_of_some _ z
  obtain ⟨its, r, ht, hz⟩ := I5.tuple hq
  show wpAny (model X.prog X.w) X.A (subscriptTail e _ (.ref a) (.ref s4.heap.objs.size)) (EP X pins σ Q) X.xe _
  refine tail_any (ops := [.ref a, .ref s4.heap.objs.size]) ht.typeIs PyProof.Rows.slot_tuple_getitem.lookup (getItem_back ht (Heap.IsSliceOf.new ..) pk (by rw [List.size_toArray, ← r.length]; exact hz) ?_) (by with_unfolding_all rfl)
  refine ⟨.ref _, _, I5.laid (o := .frz { cls := .type "tuple", data := .seq its.toArray.toList.reverse.toArray } (.tup xs.reverse)) (t' := s4.toks) (fun b o z => Heap.get?_push_of_some _ z) (Nat.le_refl _) ?_, rfl, q _ _ (I5.hok.fresh (Nat.le_refl _)) ?_⟩
  · exact ⟨Heap.get?_push_size _ rfl, by rw [List.length_reverse]; exact hz, _, by simpa using vals_back r, IsTup.new _ _⟩
  · rfl
end
end MP

/-! Mp2a: what the interpreter's values and memory stand for in the layer's heap. -/
namespace MP
open PySem L2

/-- where the memory's objects stand; and lists that a comprehension is filling: no value is one of them -/
structure Mu where
  l : List Addr
  h : List Addr
def Mu.has (μ : Mu) (a : Addr) : Prop := a ∈ μ.l ∨ a ∈ μ.h
def Mu.add (μ : Mu) (p : Addr) : Mu := ⟨μ.l ++ [p], μ.h⟩

section
variable (μ : Mu) (H : Hp)
mutual
def RV : D → V → Prop
  | .non, v => v = .non
  | .bl b, v => v = .bl b
  | .int i, v => v = .int i
  | .str s, v => v = .str s
  | .tup ds, v => ∃ a o xs, v = .ref a ∧ ¬ μ.has a ∧ H a = some (.frz o (.tup xs)) ∧ o.dict = none ∧ xs.length ≤ sizeLine ∧ RVs ds xs
  | .lst ds, v => ∃ a xs, v = .ref a ∧ ¬ μ.has a ∧ Rd H a (.lst xs) ∧ xs.length ≤ sizeLine ∧ RVs ds xs
  | .ref n, v => ∃ a, v = .ref a ∧ μ.l[n]? = some a
def RVs : List D → List V → Prop
  | [], xs => xs = []
  | d :: ds, xs => ∃ x r, xs = x :: r ∧ RV d x ∧ RVs ds r
end
def RK {κ : Type} : List (κ × D) → List (κ × V) → Prop
  | [], ws => ws = []
  | (k, d) :: r, ws => ∃ v s, ws = (k, v) :: s ∧ RV μ H d v ∧ RK r s
end
/-- the names of the classes' addresses, of the fields, of the exceptions' classes -/
structure Ad where
  ca : Nat → Addr
  fn : Nat → Str
  xa : Nat → Addr
section
variable (T : Ad) (μ : Mu) (H : Hp)
def RF : List (Nat × D) → List (Str × V) → Prop
  | [], ws => ws = []
  | (k, d) :: r, ws => ∃ v s, ws = (T.fn k, v) :: s ∧ RV μ H d v ∧ RF r s
def RO : MO → Addr → Prop
  | .lst ds, a => ∃ xs, H a = some (.lst xs) ∧ xs.length ≤ sizeLine ∧ RVs μ H ds xs
  | .dK kvs, a => ∃ ws, H a = some (.dK ws) ∧ ws.length ≤ sizeLine ∧ RK μ H kvs ws
  | .dT kvs, a => ∃ ws, H a = some (.dT ws) ∧ ws.length ≤ sizeLine ∧ RK μ H kvs ws
  | .ins C fs, a => ∃ dx ws, H a = some (.ins (T.ca C) dx ws) ∧ RF T μ H fs ws
structure Rep (M : Mem) : Prop where
  nd : μ.l.Nodup
  len : μ.l.length = M.length
  obj : ∀ (i : Nat) (a : Addr) (o : MO), μ.l[i]? = some a → M[i]? = some o → RO T μ H o a
  hid : ∀ a ∈ μ.h, (∃ o, H a = some o) ∧ a ∉ μ.l
end
/-- from (μ, H) to (μ', H'): objects are added, what is not of the memory stands -/
structure Grow (μ : Mu) (H : Hp) (μ' : Mu) (H' : Hp) : Prop where
  pre : ∃ ν, μ'.l = μ.l ++ ν
  hid : μ'.h = μ.h
  new : ∀ p, p ∈ μ'.l → p ∉ μ.l → H p = none
  keep : ∀ a o, H a = some o → a ∉ μ.l → H' a = some o
def REnv (μ : Mu) (H : Hp) (σ : L2.St) (ρ : Env) : Prop := σ.length = ρ.length ∧ ∀ (i : Nat) (d : D), ρ[i]? = some (some d) → ∃ v, σ[i]? = some (some v) ∧ RV μ H d v

theorem Grow.refl (μ : Mu) (H : Hp) : Grow μ H μ H := ⟨⟨[], by simp⟩, rfl, fun p h n => absurd h n, fun _ _ h _ => h⟩
section
variable {μ μ' : Mu} {H H' : Hp}
theorem Grow.notin (g : Grow μ H μ' H') {a : Addr} {o : HO} (h : H a = some o) (n : ¬ μ.has a) : ¬ μ'.has a := fun z => by
  rcases z with z | z
  · rw [g.new a z fun q => n (.inl q)] at h
    cases h
  · rw [g.hid] at z
    exact n (.inr z)
theorem Grow.kp (g : Grow μ H μ' H') {a : Addr} {o : HO} (h : H a = some o) (n : ¬ μ.has a) : H' a = some o := g.keep a o h fun q => n (.inl q)
theorem Grow.get (g : Grow μ H μ' H') {i : Nat} {a : Addr} (h : μ.l[i]? = some a) : μ'.l[i]? = some a := by
  obtain ⟨ν, e⟩ := g.pre
  rw [e, List.getElem?_append_left (List.getElem?_eq_some_iff.mp h).1]
  exact h
theorem Rd.some {H : Hp} {a : Addr} {u : HO} (r : Rd H a u) : ∃ o, H a = some o := by
  rcases r with r | ⟨o, r⟩
  · exact ⟨_, r⟩
  · exact ⟨_, r⟩
theorem Grow.rd (g : Grow μ H μ' H') {a : Addr} {u : HO} (r : Rd H a u) (n : ¬ μ.has a) : Rd H' a u := by
  rcases r with r | ⟨o, r⟩
  · exact .inl (g.kp r n)
  · exact .inr ⟨o, g.kp r n⟩
mutual
theorem RV.grow (g : Grow μ H μ' H') : ∀ (d : D) (v : V), RV μ H d v → RV μ' H' d v
  | .non, _, h => h
  | .bl _, _, h => h
  | .int _, _, h => h
  | .str _, _, h => h
  | .tup ds, v, ⟨a, o, xs, e, n, h, od, z, r⟩ => ⟨a, o, xs, e, g.notin h n, g.kp h n, od, z, RVs.grow g ds xs r⟩
  | .lst ds, v, ⟨a, xs, e, n, h, z, r⟩ => ⟨a, xs, e, (let ⟨_, q⟩ := Rd.some h; g.notin q n), g.rd h n, z, RVs.grow g ds xs r⟩
  | .ref n, v, ⟨a, e, h⟩ => ⟨a, e, g.get h⟩
theorem RVs.grow (g : Grow μ H μ' H') : ∀ (ds : List D) (xs : List V), RVs μ H ds xs → RVs μ' H' ds xs
  | [], _, h => h
  | d :: ds, _, ⟨x, r, e, h1, h2⟩ => ⟨x, r, e, RV.grow g d x h1, RVs.grow g ds r h2⟩
end
theorem RK.grow {κ : Type} (g : Grow μ H μ' H') : ∀ (ds : List (κ × D)) (xs : List (κ × V)), RK μ H ds xs → RK μ' H' ds xs
  | [], _, h => h
  | (k, d) :: ds, _, ⟨x, r, e, h1, h2⟩ => ⟨x, r, e, RV.grow g d x h1, RK.grow g ds r h2⟩
theorem RF.grow {T : Ad} (g : Grow μ H μ' H') : ∀ (ds : List (Nat × D)) (xs : List (Str × V)), RF T μ H ds xs → RF T μ' H' ds xs
  | [], _, h => h
  | (k, d) :: ds, _, ⟨x, r, e, h1, h2⟩ => ⟨x, r, e, RV.grow g d x h1, RF.grow g ds r h2⟩
theorem REnv.grow {σ : L2.St} {ρ : Env} (g : Grow μ H μ' H') (h : REnv μ H σ ρ) : REnv μ' H' σ ρ :=
  ⟨h.1, fun i d e => let ⟨v, q, r⟩ := h.2 i d e; ⟨v, q, RV.grow g d v r⟩⟩
theorem RVs.length : ∀ {ds : List D} {xs : List V}, RVs μ H ds xs → ds.length = xs.length
  | [], _, h => by rw [show _ = [] from h]; rfl
  | d :: ds, _, ⟨x, r, e, _, h2⟩ => by rw [e, List.length_cons, List.length_cons, RVs.length h2]
theorem RK.length {κ : Type} : ∀ {ds : List (κ × D)} {xs : List (κ × V)}, RK μ H ds xs → ds.length = xs.length
  | [], _, h => by rw [show _ = [] from h]; rfl
  | (k, d) :: ds, _, ⟨x, r, e, _, h2⟩ => by rw [e, List.length_cons, List.length_cons, RK.length h2]
theorem RVs.get : ∀ {ds : List D} {xs : List V} {i : Nat} {d : D}, RVs μ H ds xs → ds[i]? = some d → ∃ x, xs[i]? = some x ∧ RV μ H d x
  | [], _, _, _, _, q => by simp at q
  | d :: ds, _, 0, d', ⟨x, r, e, h1, h2⟩, q => by
    simp at q
    subst q
    exact ⟨x, by rw [e]; rfl, h1⟩
  | d :: ds, _, i + 1, d', ⟨x, r, e, h1, h2⟩, q => by
    obtain ⟨y, e1, e2⟩ := RVs.get (i := i) h2 (by simpa using q)
    exact ⟨y, by rw [e]; simpa using e1, e2⟩
theorem RVs.get' : ∀ {ds : List D} {xs : List V} {i : Nat} {x : V}, RVs μ H ds xs → xs[i]? = some x → ∃ d, ds[i]? = some d ∧ RV μ H d x := fun {ds xs i x} h q => by
  have hl := h.length
  have hi := (List.getElem?_eq_some_iff.mp q).1
  have hd : i < ds.length := by omega
  obtain ⟨y, e1, e2⟩ := h.get (i := i) (d := ds[i]) (by simp [hd])
  rw [q] at e1
  cases e1
  exact ⟨ds[i], by simp [hd], e2⟩
theorem RVs.append : ∀ {ds es : List D} {xs ys : List V}, RVs μ H ds xs → RVs μ H es ys → RVs μ H (ds ++ es) (xs ++ ys)
  | [], _, _, _, h, k => by rw [show _ = [] from h]; exact k
  | d :: ds, _, _, _, ⟨x, r, e, h1, h2⟩, k => by rw [e]; exact ⟨x, _, rfl, h1, RVs.append h2 k⟩
theorem RVs.one {d : D} {x : V} (h : RV μ H d x) : RVs μ H [d] [x] := ⟨x, [], rfl, h, rfl⟩
theorem RVs.take : ∀ {ds : List D} {xs : List V} (n : Nat), RVs μ H ds xs → RVs μ H (ds.take n) (xs.take n)
  | _, _, 0, _ => by simp [RVs]
  | [], _, n + 1, h => by rw [show _ = [] from h]; simp [RVs]
  | d :: ds, _, n + 1, ⟨x, r, e, h1, h2⟩ => by rw [e]; exact ⟨x, _, rfl, h1, RVs.take n h2⟩
theorem RVs.drop : ∀ {ds : List D} {xs : List V} (n : Nat), RVs μ H ds xs → RVs μ H (ds.drop n) (xs.drop n)
  | _, _, 0, h => h
  | [], _, n + 1, h => by rw [show _ = [] from h]; simp [RVs]
  | d :: ds, _, n + 1, ⟨x, r, e, h1, h2⟩ => by rw [e]; exact RVs.drop n h2
theorem RVs.set {d : D} {x : V} (h : RV μ H d x) : ∀ {ds : List D} {xs : List V} (n : Nat), RVs μ H ds xs → RVs μ H (ds.set n d) (xs.set n x)
  | [], _, _, h => by rw [show _ = [] from h]; simp [RVs]
  | _ :: ds, _, 0, ⟨y, r, e, h1, h2⟩ => by rw [e]; exact ⟨x, _, rfl, h, h2⟩
  | d' :: ds, _, n + 1, ⟨y, r, e, h1, h2⟩ => by rw [e]; exact ⟨y, _, rfl, h1, RVs.set h n h2⟩
theorem RVs.eraseIdx : ∀ {ds : List D} {xs : List V} (n : Nat), RVs μ H ds xs → RVs μ H (ds.eraseIdx n) (xs.eraseIdx n)
  | [], _, _, h => by rw [show _ = [] from h]; simp [RVs]
  | _ :: ds, _, 0, ⟨y, r, e, h1, h2⟩ => by rw [e]; exact h2
  | d' :: ds, _, n + 1, ⟨y, r, e, h1, h2⟩ => by rw [e]; exact ⟨y, _, rfl, h1, RVs.eraseIdx n h2⟩
theorem RVs.rep {ds : List D} {xs : List V} (h : RVs μ H ds xs) : ∀ k : Nat, RVs μ H (List.replicate k ds).flatten (List.replicate k xs).flatten
  | 0 => by simp [RVs]
  | k + 1 => by simpa [List.replicate_succ] using h.append (RVs.rep h k)
theorem RVs.nil : RVs μ H [] [] := rfl
theorem RVs.cut {ds : List D} {xs : List V} (h : RVs μ H ds xs) (lo hi : Option Int) : RVs μ H (MP.cut ds lo hi) (cutV xs lo hi) := by
  have hl := h.length
  unfold MP.cut cutV
  rw [hl]
  exact (h.drop _).take _
theorem RVs.atI {ds : List D} {xs : List V} (h : RVs μ H ds xs) {i : Int} {d : D} (e : L2.atI ds i = some d) : ∃ x, L2.atI xs i = some x ∧ RV μ H d x := by
  unfold L2.atI at e ⊢
  rw [h.length] at e
  cases q : ixN xs.length i with
  | none => rw [q] at e; cases e
  | some j =>
    rw [q] at e
    exact h.get e
end

/-! ### the memory grows, is written -/
section
variable {T : Ad} {μ μ' : Mu} {H H' : Hp} {M : Mem}
theorem RO.some {o : MO} {a : Addr} (h : RO T μ H o a) : ∃ u, H a = some u := by
  cases o with
  | lst ds => obtain ⟨xs, e, _⟩ := h; exact ⟨_, e⟩
  | dK ds => obtain ⟨xs, e, _⟩ := h; exact ⟨_, e⟩
  | dT ds => obtain ⟨xs, e, _⟩ := h; exact ⟨_, e⟩
  | ins C fs => obtain ⟨dx, xs, e, _⟩ := h; exact ⟨_, e⟩
theorem RO.grow {o : MO} {a : Addr} (g : Grow μ H μ' H') (e : H' a = H a) (h : RO T μ H o a) : RO T μ' H' o a := by
  cases o with
  | lst ds => obtain ⟨xs, e1, z, r⟩ := h; exact ⟨xs, e.trans e1, z, RVs.grow g _ _ r⟩
  | dK ds => obtain ⟨xs, e1, z, r⟩ := h; exact ⟨xs, e.trans e1, z, RK.grow g _ _ r⟩
  | dT ds => obtain ⟨xs, e1, z, r⟩ := h; exact ⟨xs, e.trans e1, z, RK.grow g _ _ r⟩
  | ins C fs => obtain ⟨dx, xs, e1, r⟩ := h; exact ⟨dx, xs, e.trans e1, RF.grow g _ _ r⟩
theorem Rep.mem_some (R : Rep T μ H M) {a : Addr} (h : a ∈ μ.l) : ∃ o, H a = some o := by
  obtain ⟨i, hi⟩ := List.getElem?_of_mem h
  have hlt := (List.getElem?_eq_some_iff.mp hi).1
  have : i < M.length := by rw [← R.len]; exact hlt
  exact (R.obj i a M[i] hi (by simp [this])).some
theorem Rep.fresh (R : Rep T μ H M) {p : Addr} (hp : H p = none) : ¬ μ.has p := fun z => by
  rcases z with z | z
  · obtain ⟨q, e⟩ := R.mem_some z
    rw [hp] at e; cases e
  · obtain ⟨q, e⟩ := (R.hid p z).1
    rw [hp] at e; cases e
theorem Grow.trans {μ'' : Mu} {H'' : Hp} (g : Grow μ H μ' H') (g' : Grow μ' H' μ'' H'') : Grow μ H μ'' H'' := by
  obtain ⟨ν, e⟩ := g.pre
  obtain ⟨ν', e'⟩ := g'.pre
  have nin : ∀ a o, H a = some o → a ∉ μ.l → a ∉ μ'.l := fun a o h n z => by rw [g.new a z n] at h; cases h
  refine ⟨⟨ν ++ ν', by rw [e', e]; simp⟩, g'.hid.trans g.hid, fun p hp hn => ?_, fun a o h n => g'.keep _ _ (g.keep _ _ h n) (nin a o h n)⟩
  by_cases hq : p ∈ μ'.l
  · exact g.new p hq hn
  · have h1 := g'.new p hp hq
    cases q : H p with
    | none => rfl
    | some o =>
      rw [g.keep p o q hn] at h1
      cases h1
theorem Grow.alloc {p : Addr} {u : HO} (hp : H p = none) : Grow μ H (μ.add p) (upd H p u) := by
  refine ⟨⟨_, rfl⟩, rfl, fun q hq hm => ?_, fun a w h n => ?_⟩
  · rcases List.mem_append.mp hq with h | h
    · exact absurd h hm
    · rw [List.mem_singleton.mp h]; exact hp
  · rw [upd_ne (ne_of_none h hp)]; exact h
/-- a new object of the memory -/
theorem Rep.alloc {p : Addr} {o : MO} {u : HO} (R : Rep T μ H M) (hp : H p = none) (ho : RO T (μ.add p) (upd H p u) o p) : Rep T (μ.add p) (upd H p u) (M ++ [o]) ∧ Grow μ H (μ.add p) (upd H p u) := by
  have hn : p ∉ μ.l := fun z => R.fresh hp (.inl z)
  have g : Grow μ H (μ.add p) (upd H p u) := .alloc hp
  refine ⟨⟨?_, by simp [Mu.add, R.len], fun i a w hi hw => ?_, fun a ha => ?_⟩, g⟩
  · show (μ.l ++ [p]).Nodup
    rw [List.nodup_append]
    refine ⟨R.nd, by simp, fun a ha b hb => ?_⟩
    rw [List.mem_singleton.mp hb]
    rintro rfl
    exact hn ha
  · have hi : (μ.l ++ [p])[i]? = some a := hi
    by_cases hlt : i < μ.l.length
    · rw [List.getElem?_append_left hlt] at hi
      rw [List.getElem?_append_left (by rw [← R.len]; exact hlt)] at hw
      have h0 := R.obj i a w hi hw
      have ha : a ≠ p := fun e => hn (e ▸ List.mem_of_getElem? hi)
      exact h0.grow g (upd_ne ha)
    · have hi' := (List.getElem?_eq_some_iff.mp hi).1
      simp at hi'
      have e : i = μ.l.length := by omega
      subst e
      rw [List.getElem?_append_right (Nat.le_refl _)] at hi
      rw [R.len, List.getElem?_append_right (Nat.le_refl _)] at hw
      simp at hi hw
      subst hi hw
      exact ho
  · obtain ⟨⟨o, e⟩, n⟩ := R.hid a ha
    have hap : a ≠ p := ne_of_none e hp
    refine ⟨⟨o, by rw [upd_ne hap]; exact e⟩, fun z => ?_⟩
    rcases List.mem_append.mp z with z | z
    · exact n z
    · exact hap (List.mem_singleton.mp z)
/-- a new object that is not of the memory -/
theorem Rep.laid {p : Addr} {u : HO} (R : Rep T μ H M) (hp : H p = none) : Rep T μ (upd H p u) M ∧ Grow μ H μ (upd H p u) ∧ ¬ μ.has p := by
  have hn := R.fresh hp
  have g : Grow μ H μ (upd H p u) := ⟨⟨[], by simp⟩, rfl, fun q hq hm => absurd hq hm, fun a w h n => by rw [upd_ne (ne_of_none h hp)]; exact h⟩
  refine ⟨⟨R.nd, R.len, fun i a w hi hw => ?_, fun a ha => ?_⟩, g, hn⟩
  · have ha : a ≠ p := fun e => hn (.inl (e ▸ List.mem_of_getElem? hi))
    exact (R.obj i a w hi hw).grow g (upd_ne ha)
  · obtain ⟨⟨o, e⟩, n⟩ := R.hid a ha
    exact ⟨⟨o, by rw [upd_ne (ne_of_none e hp)]; exact e⟩, n⟩
/-- an object of the memory is written -/
theorem Rep.write {n : Nat} {a : Addr} {o : MO} {u : HO} (R : Rep T μ H M) (ha : μ.l[n]? = some a) (ho : RO T μ (upd H a u) o a) : Rep T μ (upd H a u) (M.set n o) ∧ Grow μ H μ (upd H a u) := by
  have hm : a ∈ μ.l := List.mem_of_getElem? ha
  have g : Grow μ H μ (upd H a u) := ⟨⟨[], by simp⟩, rfl, fun q hq hm => absurd hq hm, fun b w h n => by
    have hb : b ≠ a := fun e => n (by rw [e]; exact hm)
    rw [upd_ne hb]; exact h⟩
  refine ⟨⟨R.nd, by simp [R.len], fun i b w hi hw => ?_, fun b hb => ?_⟩, g⟩
  · by_cases e : i = n
    · subst e
      rw [ha] at hi
      cases hi
      have hlt : i < M.length := by rw [← R.len]; exact (List.getElem?_eq_some_iff.mp ha).1
      rw [List.getElem?_set_self hlt] at hw
      cases hw
      exact ho
    · rw [List.getElem?_set_ne (Ne.symm e)] at hw
      have hb : b ≠ a := fun z => by
        subst z
        have := R.nd
        exact e ((List.getElem?_inj (List.getElem?_eq_some_iff.mp hi).1 this).mp (hi.trans ha.symm))
      exact (R.obj i b w hi hw).grow g (upd_ne hb)
  · obtain ⟨⟨o, e⟩, n⟩ := R.hid b hb
    have hba : b ≠ a := fun z => n (by rw [z]; exact hm)
    exact ⟨⟨o, by rw [upd_ne hba]; exact e⟩, n⟩
theorem Rep.at (R : Rep T μ H M) {n : Nat} {o : MO} (h : M[n]? = some o) : ∃ a, μ.l[n]? = some a ∧ RO T μ H o a := by
  have hlt : n < μ.l.length := by rw [R.len]; exact (List.getElem?_eq_some_iff.mp h).1
  exact ⟨μ.l[n], by simp [hlt], R.obj n _ o (by simp [hlt]) h⟩

/-! ### forgetting -/
mutual
theorem RV.under : ∀ (d : D) (v : V), RV μ H d v → d.under μ.l.length = true
  | .non, _, _ => rfl
  | .bl _, _, _ => rfl
  | .int _, _, _ => rfl
  | .str _, _, _ => rfl
  | .tup ds, v, ⟨a, o, xs, e, n, h, od, z, r⟩ => by simp only [D.under]; exact RVs.under ds xs r
  | .lst ds, v, ⟨a, xs, e, n, h, z, r⟩ => by simp only [D.under]; exact RVs.under ds xs r
  | .ref n, v, ⟨a, e, h⟩ => by simp only [D.under]; exact decide_eq_true (List.getElem?_eq_some_iff.mp h).1
theorem RVs.under : ∀ (ds : List D) (xs : List V), RVs μ H ds xs → D.underL μ.l.length ds = true
  | [], _, _ => rfl
  | d :: ds, _, ⟨x, r, e, h1, h2⟩ => by simp only [D.underL, RV.under d x h1, RVs.under ds r h2, Bool.and_self]
end
/-- μ' begins with μ -/
def Pre (μ μ' : Mu) : Prop := (∃ ν, μ'.l = μ.l ++ ν) ∧ μ'.h = μ.h
theorem Pre.no {a : Addr} (q : Pre μ μ') (n : ¬ μ'.has a) : ¬ μ.has a := fun z => by
  obtain ⟨⟨ν, e⟩, e2⟩ := q
  rcases z with z | z
  · exact n (.inl (by rw [e]; exact List.mem_append_left _ z))
  · exact n (.inr (by rw [e2]; exact z))
mutual
theorem RV.back (q : Pre μ μ') : ∀ (d : D) (v : V), RV μ' H d v → d.under μ.l.length = true → RV μ H d v
  | .non, _, h, _ => h
  | .bl _, _, h, _ => h
  | .int _, _, h, _ => h
  | .str _, _, h, _ => h
  | .tup ds, v, ⟨a, o, xs, e, n, h, od, z, r⟩, u => ⟨a, o, xs, e, q.no n, h, od, z, RVs.back q ds xs r (by simpa [D.under] using u)⟩
  | .lst ds, v, ⟨a, xs, e, n, h, z, r⟩, u => ⟨a, xs, e, q.no n, h, z, RVs.back q ds xs r (by simpa [D.under] using u)⟩
  | .ref n, v, ⟨a, e, h⟩, u => ⟨a, e, by
      have hlt : n < μ.l.length := by simpa [D.under] using u
      obtain ⟨⟨ν, e⟩, _⟩ := q
      rw [e, List.getElem?_append_left hlt] at h
      exact h⟩
theorem RVs.back (q : Pre μ μ') : ∀ (ds : List D) (xs : List V), RVs μ' H ds xs → D.underL μ.l.length ds = true → RVs μ H ds xs
  | [], _, h, _ => h
  | d :: ds, _, ⟨x, r, e, h1, h2⟩, u => by
    simp only [D.underL, Bool.and_eq_true] at u
    exact ⟨x, r, e, RV.back q d x h1 u.1, RVs.back q ds r h2 u.2⟩
end
theorem RK.under {κ : Type} : ∀ {ds : List (κ × D)} {xs : List (κ × V)}, RK μ H ds xs → (ds.all fun p => p.2.under μ.l.length) = true
  | [], _, _ => rfl
  | (k, d) :: ds, _, ⟨x, r, e, h1, h2⟩ => by simp only [List.all_cons, RV.under d x h1, RK.under h2, Bool.and_self]
theorem RK.back {κ : Type} (q : Pre μ μ') : ∀ {ds : List (κ × D)} {xs : List (κ × V)}, RK μ' H ds xs → (ds.all fun p => p.2.under μ.l.length) = true → RK μ H ds xs
  | [], _, h, _ => h
  | (k, d) :: ds, _, ⟨x, r, e, h1, h2⟩, u => by
    simp only [List.all_cons, Bool.and_eq_true] at u
    exact ⟨x, r, e, RV.back q d x h1 u.1, RK.back q h2 u.2⟩
theorem RF.under : ∀ {ds : List (Nat × D)} {xs : List (Str × V)}, RF T μ H ds xs → (ds.all fun p => p.2.under μ.l.length) = true
  | [], _, _ => rfl
  | (k, d) :: ds, _, ⟨x, r, e, h1, h2⟩ => by simp only [List.all_cons, RV.under d x h1, RF.under h2, Bool.and_self]
theorem RF.back (q : Pre μ μ') : ∀ {ds : List (Nat × D)} {xs : List (Str × V)}, RF T μ' H ds xs → (ds.all fun p => p.2.under μ.l.length) = true → RF T μ H ds xs
  | [], _, h, _ => h
  | (k, d) :: ds, _, ⟨x, r, e, h1, h2⟩, u => by
    simp only [List.all_cons, Bool.and_eq_true] at u
    exact ⟨x, r, e, RV.back q d x h1 u.1, RF.back q h2 u.2⟩
theorem RO.under {o : MO} {a : Addr} (h : RO T μ H o a) : o.under μ.l.length = true := by
  cases o with
  | lst ds => obtain ⟨xs, _, _, r⟩ := h; exact RVs.under _ _ r
  | dK ds => obtain ⟨xs, _, _, r⟩ := h; exact r.under
  | dT ds => obtain ⟨xs, _, _, r⟩ := h; exact r.under
  | ins C fs => obtain ⟨dx, xs, _, r⟩ := h; exact r.under
theorem RO.back (q : Pre μ μ') {o : MO} {a : Addr} (h : RO T μ' H o a) (u : o.under μ.l.length = true) : RO T μ H o a := by
  cases o with
  | lst ds => obtain ⟨xs, e, z, r⟩ := h; exact ⟨xs, e, z, RVs.back q _ _ r u⟩
  | dK ds => obtain ⟨xs, e, z, r⟩ := h; exact ⟨xs, e, z, r.back q u⟩
  | dT ds => obtain ⟨xs, e, z, r⟩ := h; exact ⟨xs, e, z, r.back q u⟩
  | ins C fs => obtain ⟨dx, xs, e, r⟩ := h; exact ⟨dx, xs, e, r.back q u⟩
theorem Rep.drop {M' M2 : Mem} (R : Rep T μ H M) (g : Grow μ H μ' H') (R' : Rep T μ' H' M') (e : MP.drop M M' = some M2) : Rep T μ H' M2 ∧ Grow μ H μ H' := by
  obtain ⟨ν, hν⟩ := g.pre
  have gg : Grow μ H μ H' := ⟨⟨[], by simp⟩, rfl, fun q hq hm => absurd hq hm, g.keep⟩
  have key : ∀ M2 : Mem, M'.take M.length = M2 → (∀ o ∈ M2, o.under M.length = true) → Rep T μ H' M2 := fun M2 e1 hu => by
    have hlen : M2.length = M.length := by
      rw [← e1, List.length_take]
      have := R'.len
      rw [hν, List.length_append, R.len] at this
      omega
    refine ⟨R.nd, by rw [R.len, hlen], fun i a o hi ho => ?_, fun a ha => ?_⟩
    · have hlt : i < M.length := by rw [← hlen]; exact (List.getElem?_eq_some_iff.mp ho).1
      have ho' : M'[i]? = some o := by
        rw [← e1, List.getElem?_take_of_lt hlt] at ho
        exact ho
      have hi' : μ'.l[i]? = some a := by
        rw [hν, List.getElem?_append_left (by rw [R.len]; exact hlt)]
        exact hi
      refine (R'.obj i a o hi' ho').back ⟨⟨ν, hν⟩, g.hid⟩ ?_
      rw [R.len]
      exact hu o (List.mem_of_getElem? ho)
    · obtain ⟨⟨o, e⟩, n⟩ := R.hid a ha
      exact ⟨⟨o, g.keep a o e n⟩, n⟩
  refine ⟨?_, gg⟩
  unfold MP.drop at e
  by_cases h1 : M'.take M.length = M
  · rw [if_pos h1] at e
    cases e
    refine key M h1 fun o ho => ?_
    obtain ⟨i, hi⟩ := List.getElem?_of_mem ho
    obtain ⟨a, ea, hr⟩ := R.at hi
    rw [← R.len]
    exact hr.under
  · rw [if_neg h1] at e
    by_cases h2 : (M'.take M.length).all (MO.under M.length) = true
    · rw [if_pos h2] at e
      cases e
      exact key _ rfl fun o ho => List.all_eq_true.mp h2 o ho
    · rw [if_neg h2] at e
      cases e
end
end MP

/-! Mp2b: each primitive of the interpreter, by the layer's rules on values. -/
namespace MP
open PySem PySem.Spec PyProof.Rows L2
theorem big_eq : big = sizeLine := by rw [sizeLine_eq]; rfl
/-- what is wanted of a value -/
def Fin (T : Ad) (μ : Mu) (H : Hp) (d : D) (M' : Mem) (Q : VK) : Prop := ∀ v μ' H', Grow μ H μ' H' → Rep T μ' H' M' → RV μ' H' d v → Q v H'
section
variable {T : Ad} {μ : Mu} {H : Hp} {M : Mem} {X : Cx} {Q : VK}
theorem Fin.same {d : D} {v : V} (f : Fin T μ H d M Q) (R : Rep T μ H M) (r : RV μ H d v) : Q v H := f v μ H (Grow.refl _ _) R r
theorem Fin.newL {m : Bool} {xs : List D} {vs : List V} {d : D} {M' : Mem} (R : Rep T μ H M) (e : newL m xs M = .ok d M') (r : RVs μ H xs vs) (hz : vs.length ≤ sizeLine) (f : Fin T μ H d M' Q) (p : Addr) (hp : H p = none) : Q (.ref p) (upd H p (.lst vs)) := by
  unfold MP.newL at e
  cases m with
  | true =>
    simp only [if_true] at e
    obtain ⟨rfl, rfl⟩ : D.ref M.length = d ∧ M ++ [MO.lst xs] = M' := by injection e with a b; exact ⟨a, b⟩
    have g0 := (R.laid (u := .lst vs) hp)
    have key : RO T (μ.add p) (upd H p (.lst vs)) (.lst xs) p := by
      refine ⟨vs, upd_same, hz, ?_⟩
      have g : Grow μ H (μ.add p) (upd H p (.lst vs)) := .alloc hp
      exact RVs.grow g _ _ r
    obtain ⟨R', g⟩ := R.alloc hp key
    exact f _ _ _ g R' ⟨p, rfl, by rw [← R.len]; simp [Mu.add]⟩
  | false =>
    simp only [Bool.false_eq_true, if_false] at e
    obtain ⟨rfl, rfl⟩ : D.lst xs = d ∧ M = M' := by injection e with a b; exact ⟨a, b⟩
    obtain ⟨R', g, hn⟩ := R.laid (u := .lst vs) hp
    exact f _ _ _ g R' ⟨p, vs, rfl, hn, .inl upd_same, hz, RVs.grow g _ _ r⟩
theorem Fin.newT {ds : List D} {vs : List V} (R : Rep T μ H M) (r : RVs μ H ds vs) (hz : vs.length ≤ sizeLine) (f : Fin T μ H (.tup ds) M Q) (p : Addr) (o : Obj) (hp : H p = none) (ho : o.dict = none) : Q (.ref p) (upd H p (.frz o (.tup vs))) := by
  obtain ⟨R', g, hn⟩ := R.laid (u := .frz o (.tup vs)) hp
  exact f _ _ _ g R' ⟨p, o, vs, rfl, hn, upd_same, ho, hz, RVs.grow g _ _ r⟩
theorem Fin.ofB {o : Option Bool} {d : D} {M' : Mem} (e : R.ofB o M = .ok d M') : ∃ b, o = some b ∧ d = .bl b ∧ M' = M := by
  cases o with
  | none => cases e
  | some b =>
    obtain ⟨rfl, rfl⟩ : D.bl b = d ∧ M = M' := by injection e with a b; exact ⟨a, b⟩
    exact ⟨b, rfl, rfl, rfl⟩

/-! ### sequences -/
theorem seq_rv (R : Rep T μ H M) {d : D} {v : V} {ds : List D} (r : RV μ H d v) (e : seqOf M d = some ds) :
    ∃ a vs, v = .ref a ∧ vs.length ≤ sizeLine ∧ RVs μ H ds vs ∧ ((∃ o, H a = some (.frz o (.tup vs)) ∧ o.dict = none ∧ d = .tup ds) ∨ (Rd H a (.lst vs) ∧ (d = .lst ds ∨ ∃ n, d = .ref n ∧ M[n]? = some (.lst ds)))) := by
  cases d with
  | tup xs =>
    obtain rfl : xs = ds := Option.some.inj e
    obtain ⟨a, o, vs, rfl, n, h, od, z, q⟩ := r
    exact ⟨a, vs, rfl, z, q, .inl ⟨o, h, od, rfl⟩⟩
  | lst xs =>
    obtain rfl : xs = ds := Option.some.inj e
    obtain ⟨a, vs, rfl, n, h, z, q⟩ := r
    exact ⟨a, vs, rfl, z, q, .inr ⟨h, .inl rfl⟩⟩
  | ref n =>
    obtain ⟨a, rfl, ha⟩ := r
    simp only [seqOf] at e
    cases q : M[n]? with
    | none => rw [q] at e; cases e
    | some o =>
      rw [q] at e
      cases o with
      | lst xs =>
        obtain rfl : xs = ds := Option.some.inj e
        obtain ⟨vs, h, z, r⟩ := R.obj n a _ ha q
        exact ⟨a, vs, rfl, z, r, .inr ⟨.inl h, .inr ⟨n, rfl, q⟩⟩⟩
      | _ => cases e
  | _ => cases e
theorem seq_sq (R : Rep T μ H M) {K : PySem.W.Frag} {d : D} {v : V} {ds : List D} (r : RV μ H d v) (e : seqOf M d = some ds) : ∃ a vs, v = .ref a ∧ vs.length ≤ sizeLine ∧ RVs μ H ds vs ∧ (SqL K H a vs ∨ SqT K H a vs) := by
  obtain ⟨a, vs, rfl, z, q, h⟩ := seq_rv R r e
  refine ⟨a, vs, rfl, z, q, ?_⟩
  rcases h with ⟨o, h, _⟩ | ⟨h, _⟩
  · exact .inr (.inl (.inr ⟨o, h⟩))
  · exact .inl (.inl h)
theorem deref_seq {d : D} {ds : List D} (e : deref M d = .lst ds) : seqOf M d = some ds ∧ ∀ xs, d ≠ .tup xs := by
  cases d with
  | lst xs =>
    simp only [deref] at e
    injection e with e
    exact ⟨by simp only [seqOf, e], fun _ h => nomatch h⟩
  | ref n =>
    simp only [deref] at e
    cases q : M[n]? with
    | none => rw [q] at e; cases e
    | some o =>
      rw [q] at e
      cases o with
      | lst xs =>
        injection e with e
        exact ⟨by simp only [seqOf, q, e], fun _ h => nomatch h⟩
      | _ => cases e
  | _ => cases e
theorem deref_rd (R : Rep T μ H M) {d : D} {v : V} {ds : List D} (r : RV μ H d v) (e : deref M d = .lst ds) : ∃ a vs, v = .ref a ∧ vs.length ≤ sizeLine ∧ RVs μ H ds vs ∧ Rd H a (.lst vs) := by
  obtain ⟨e1, e2⟩ := deref_seq e
  obtain ⟨a, vs, rfl, z, q, h⟩ := seq_rv R r e1
  rcases h with ⟨o, h, _, h3⟩ | ⟨h, _⟩
  · exact absurd h3 (e2 _)
  · exact ⟨a, vs, rfl, z, q, h⟩

/-! ### plain data -/
mutual
def D.py : D → PyData
  | .non => .none
  | .bl b => .bool b
  | .int i => .int i
  | .str s => .str s
  | .tup xs => .tuple (D.pyL xs)
  | .lst xs => .list (D.pyL xs)
  | .ref _ => .none
def D.pyL : List D → List PyData
  | [] => []
  | x :: xs => D.py x :: D.pyL xs
end
mutual
theorem py_lay : ∀ d : D, d.plain = true → d.py.canLay0 = true
  | .non, _ => by simp [D.py, PyData.canLay0]
  | .bl _, _ => by simp [D.py, PyData.canLay0]
  | .int _, _ => by simp [D.py, PyData.canLay0]
  | .str s, h => by simp only [D.plain] at h; simp only [D.py, PyData.canLay0]; exact h
  | .tup xs, h => by simp only [D.plain] at h; simp only [D.py, PyData.canLay0]; exact pyL_lay xs h
  | .lst xs, h => by simp only [D.plain] at h; simp only [D.py, PyData.canLay0]; exact pyL_lay xs h
  | .ref _, h => by simp [D.plain] at h
theorem pyL_lay : ∀ ds : List D, D.plainL ds = true → PyData.canLayAll0 (D.pyL ds) = true
  | [], _ => by simp [D.pyL, PyData.canLayAll0]
  | d :: ds, h => by
    simp only [D.plainL, Bool.and_eq_true] at h
    simp only [D.pyL, PyData.canLayAll0, py_lay d h.1, pyL_lay ds h.2, Bool.and_self]
end
mutual
theorem py_depth : ∀ d : D, d.py.depth = d.depth
  | .non => by simp [D.py, PyData.depth, D.depth]
  | .bl _ => by simp [D.py, PyData.depth, D.depth]
  | .int _ => by simp [D.py, PyData.depth, D.depth]
  | .str s => by simp [D.py, PyData.depth, D.depth]
  | .tup xs => by simp [D.py, PyData.depth, D.depth, pyL_depth xs]
  | .lst xs => by simp [D.py, PyData.depth, D.depth, pyL_depth xs]
  | .ref _ => by simp [D.py, PyData.depth, D.depth]
theorem pyL_depth : ∀ ds : List D, PyData.depthAll (D.pyL ds) = D.depthL ds
  | [] => by simp [D.pyL, PyData.depthAll, D.depthL]
  | d :: ds => by simp [D.pyL, PyData.depthAll, D.depthL, py_depth d, pyL_depth ds]
end
theorem py_shaped {d : D} (h : d.good = true) : SeqAt.shaped d.py = true := by
  simp only [D.good, Bool.and_eq_true, decide_eq_true_eq] at h
  unfold SeqAt.shaped
  rw [py_lay d h.1, py_depth, decide_eq_true h.2]
  rfl
theorem dec_beq {a b : Str} : (a == b) = decide (a = b) := by
  rw [Bool.eq_iff_iff]
  simp
theorem dec_beqI {a b : Int} : (a == b) = decide (a = b) := by
  rw [Bool.eq_iff_iff]
  simp
mutual
theorem py_eqv : ∀ a b : D, a.plain = true → b.plain = true → PyData.eqv a.py b.py = a.eqv b
  | .non, b, _, hb => by cases b <;> simp [D.py, PyData.eqv, D.eqv, D.plain] at hb ⊢
  | .bl x, b, _, hb => by cases b <;> simp [D.py, PyData.eqv, D.eqv, D.plain, dec_beqI] at hb ⊢
  | .int x, b, _, hb => by cases b <;> simp [D.py, PyData.eqv, D.eqv, D.plain, dec_beqI] at hb ⊢
  | .str x, b, _, hb => by cases b <;> simp [D.py, PyData.eqv, D.eqv, D.plain, dec_beq] at hb ⊢
  | .tup xs, b, ha, hb => by
    cases b with
    | tup ys =>
      simp only [D.py, PyData.eqv, D.eqv]
      exact pyL_eqv xs ys (by simpa [D.plain] using ha) (by simpa [D.plain] using hb)
    | ref _ => simp [D.plain] at hb
    | _ => simp [D.py, PyData.eqv, D.eqv]
  | .lst xs, b, ha, hb => by
    cases b with
    | lst ys =>
      simp only [D.py, PyData.eqv, D.eqv]
      exact pyL_eqv xs ys (by simpa [D.plain] using ha) (by simpa [D.plain] using hb)
    | ref _ => simp [D.plain] at hb
    | _ => simp [D.py, PyData.eqv, D.eqv]
  | .ref _, _, h, _ => by simp [D.plain] at h
theorem pyL_eqv : ∀ a b : List D, D.plainL a = true → D.plainL b = true → PyData.eqvAll (D.pyL a) (D.pyL b) = D.eqvL a b
  | [], [], _, _ => by simp [D.pyL, PyData.eqvAll, D.eqvL]
  | [], _ :: _, _, _ => by simp [D.pyL, PyData.eqvAll, D.eqvL]
  | _ :: _, [], _, _ => by simp [D.pyL, PyData.eqvAll, D.eqvL]
  | a :: as, b :: bs, ha, hb => by
    simp only [D.plainL, Bool.and_eq_true] at ha hb
    simp only [D.pyL, PyData.eqvAll, D.eqvL, py_eqv a b ha.1 hb.1, pyL_eqv as bs ha.2 hb.2]
end
mutual
theorem RV.dp {K : PySem.W.Frag} : ∀ (d : D) (v : V), RV μ H d v → d.plain = true → Dp K H v d.py
  | .non, _, h, _ => by rw [show _ = V.non from h]; simp only [D.py]; exact .non
  | .bl b, _, h, _ => by rw [show _ = V.bl b from h]; simp only [D.py]; exact .bl b
  | .int b, _, h, _ => by rw [show _ = V.int b from h]; simp only [D.py]; exact .int b
  | .str b, _, h, _ => by rw [show _ = V.str b from h]; simp only [D.py]; exact .str b
  | .tup ds, v, ⟨a, o, xs, e, n, h, od, z, r⟩, p => by
    rw [e]; simp only [D.py]
    exact .tup (.inl (.inr ⟨o, h⟩)) (RVs.dp ds xs r (by simpa [D.plain] using p))
  | .lst ds, v, ⟨a, xs, e, n, h, z, r⟩, p => by
    rw [e]; simp only [D.py]
    exact .lst (.inl h) (RVs.dp ds xs r (by simpa [D.plain] using p))
  | .ref n, v, _, p => by simp [D.plain] at p
theorem RVs.dp {K : PySem.W.Frag} : ∀ (ds : List D) (xs : List V), RVs μ H ds xs → D.plainL ds = true → DpAll K H xs (D.pyL ds)
  | [], _, h, _ => by rw [show _ = [] from h]; simp only [D.pyL]; exact .nil
  | d :: ds, _, ⟨x, r, e, h1, h2⟩, p => by
    simp only [D.plainL, Bool.and_eq_true] at p
    rw [e]; simp only [D.pyL]
    exact .cons (RV.dp d x h1 p.1) (RVs.dp ds r h2 p.2)
end
theorem deref_dp {K : PySem.W.Frag} (R : Rep T μ H M) {d : D} {v : V} (r : RV μ H d v) (g : (deref M d).good = true) : Dp K H v (deref M d).py := by
  have p : (deref M d).plain = true := by simp only [D.good, Bool.and_eq_true] at g; exact g.1
  cases d with
  | ref n =>
    cases q : deref M (.ref n) with
    | lst ds =>
      obtain ⟨a, vs, rfl, z, h1, h2⟩ := deref_rd R r q
      rw [q] at p
      simp only [D.py]
      exact .lst (.inl h2) (RVs.dp ds vs h1 (by simpa [D.plain] using p))
    | ref m => rw [q] at p; simp [D.plain] at p
    | _ =>
      simp only [deref] at q
      split at q <;> cases q
  | _ => exact RV.dp _ v r p

/-! ### truth -/
theorem truth_ok {K : PySem.W.Frag} (R : Rep T μ H M) {d : D} {v : V} {b : Bool} (r : RV μ H d v) (e : truth M d = some b) : TruV K v H b := by
  cases d with
  | non => rw [show v = V.non from r]; exact (Option.some.inj e).symm
  | bl x => rw [show v = V.bl x from r]; exact (Option.some.inj e).symm
  | int x => rw [show v = V.int x from r]; exact (Option.some.inj e).symm
  | str x =>
    rw [show v = V.str x from r]
    simp only [truth] at e
    split at e
    · rename_i h
      exact ⟨by rw [← big_eq]; exact h, (Option.some.inj e).symm⟩
    · cases e
  | tup xs =>
    obtain ⟨a, o, vs, rfl, n, h, od, z, q⟩ := r
    refine .inr (.inl ⟨vs, .inl (.inr ⟨o, h⟩), ?_⟩)
    rw [← Option.some.inj e]
    have := q.length
    cases xs <;> cases vs <;> simp at this ⊢
  | lst xs =>
    obtain ⟨a, vs, rfl, n, h, z, q⟩ := r
    refine .inl ⟨vs, .inl h, ?_⟩
    rw [← Option.some.inj e]
    have := q.length
    cases xs <;> cases vs <;> simp at this ⊢
  | ref n =>
    obtain ⟨a, rfl, ha⟩ := r
    simp only [truth] at e
    cases q : M[n]? with
    | none => rw [q] at e; cases e
    | some o =>
      rw [q] at e
      cases o with
      | lst xs =>
        obtain ⟨vs, h, z, r⟩ := R.obj n a _ ha q
        refine .inl ⟨vs, .inl (.inl h), ?_⟩
        rw [← Option.some.inj e]
        have := r.length
        cases xs <;> cases vs <;> simp at this ⊢
      | dK xs =>
        obtain ⟨vs, h, z, r⟩ := R.obj n a _ ha q
        refine .inr (.inr ⟨vs, h, ?_⟩)
        rw [← Option.some.inj e]
        have := r.length
        cases xs <;> cases vs <;> simp at this ⊢
      | _ => cases e

/-! ### == -/
theorem scal_ok {x y : D} {v u : V} {b : Bool} (rx : RV μ H x v) (ry : RV μ H y u) (e : scalEq x y = some b) : scal v u = true ∧ decide (v = u) = b := by
  cases x <;> cases y <;> simp only [scalEq, Option.some.injEq, reduceCtorEq] at e <;> (obtain rfl := rx; obtain rfl := ry; subst e; simp [scal])
theorem eq_ok {K : PySem.W.Frag} (R : Rep T μ H M) {x y : D} {v u : V} {b : Bool} (rx : RV μ H x v) (ry : RV μ H y u) (e : eqD M x y = some b) (q : Q (.bl b) H) : rEq v u H Q ∨ rEqD K v u H Q := by
  unfold eqD at e
  cases h : scalEq x y with
  | some c =>
    rw [h] at e
    obtain rfl : c = b := Option.some.inj e
    obtain ⟨h1, h2⟩ := scal_ok rx ry h
    exact .inl ⟨h1, by rw [h2]; exact q⟩
  | none =>
    rw [h] at e
    simp only [Bool.and_eq_true] at e
    split at e
    · rename_i hg
      obtain rfl : _ = b := Option.some.inj e
      refine .inr ⟨_, _, deref_dp R rx hg.1, deref_dp R ry hg.2, py_shaped hg.1, py_shaped hg.2, ?_⟩
      rw [py_eqv]
      · exact q
      · have := hg.1; simp only [D.good, Bool.and_eq_true] at this; exact this.1
      · have := hg.2; simp only [D.good, Bool.and_eq_true] at this; exact this.1
    · cases e
theorem ne_ok {K : PySem.W.Frag} (R : Rep T μ H M) {x y : D} {v u : V} {b : Bool} (rx : RV μ H x v) (ry : RV μ H y u) (e : eqD M x y = some b) (q : Q (.bl (!b)) H) : rNe v u H Q ∨ rNeD K v u H Q := by
  unfold eqD at e
  cases h : scalEq x y with
  | some c =>
    rw [h] at e
    obtain rfl : c = b := Option.some.inj e
    obtain ⟨h1, h2⟩ := scal_ok rx ry h
    exact .inl ⟨h1, by rw [h2]; exact q⟩
  | none =>
    rw [h] at e
    simp only [Bool.and_eq_true] at e
    split at e
    · rename_i hg
      obtain rfl : _ = b := Option.some.inj e
      refine .inr ⟨_, _, deref_dp R rx hg.1, deref_dp R ry hg.2, py_shaped hg.1, py_shaped hg.2, ?_⟩
      rw [py_eqv]
      · exact q
      · have := hg.1; simp only [D.good, Bool.and_eq_true] at this; exact this.1
      · have := hg.2; simp only [D.good, Bool.and_eq_true] at this; exact this.1
    · cases e
end
end MP

/-! Mp2c: dicts, in, operators, built-in functions and methods. -/
namespace MP
open PySem PySem.Spec PyProof.Rows L2
section
variable {μ : Mu} {H : Hp} {κ : Type} [DecidableEq κ]
theorem RK.get : ∀ {kvs : List (κ × D)} {ws : List (κ × V)} (k : κ), RK μ H kvs ws → (∀ d, dGet kvs k = some d → ∃ v, valV ws k = some v ∧ RV μ H d v) ∧ (dGet kvs k = none → valV ws k = none)
  | [], _, k, h => by rw [show _ = [] from h]; exact ⟨fun d e => by simp [dGet] at e, fun _ => rfl⟩
  | (k', d') :: r, _, k, ⟨v, s, e, h1, h2⟩ => by
    rw [e]
    obtain ⟨i1, i2⟩ := RK.get k h2
    by_cases hk : k' = k
    · refine ⟨fun d q => ⟨v, by simp [valV, List.find?_cons, hk], ?_⟩, fun q => by simp [dGet, List.find?_cons, hk] at q⟩
      have : d' = d := by simpa [dGet, List.find?_cons, hk] using q
      rw [← this]
      exact h1
    · have e1 : dGet ((k', d') :: r) k = dGet r k := by simp [dGet, List.find?_cons, hk]
      have e2 : valV ((k', v) :: s) k = valV s k := by simp [valV, List.find?_cons, hk]
      rw [e1, e2]
      exact ⟨i1, i2⟩
theorem RK.any : ∀ {kvs : List (κ × D)} {ws : List (κ × V)} (k : κ), RK μ H kvs ws → (kvs.any fun kv => decide (kv.1 = k)) = ws.any fun kv => decide (kv.1 = k)
  | [], _, k, h => by rw [show _ = [] from h]; rfl
  | (k', d') :: r, _, k, ⟨v, s, e, h1, h2⟩ => by rw [e, List.any_cons, List.any_cons, RK.any k h2]
theorem RK.repl {d : D} {v : V} (k : κ) (h : RV μ H d v) : ∀ {kvs : List (κ × D)} {ws : List (κ × V)}, RK μ H kvs ws → RK μ H (kvs.map fun kv => if kv.1 = k then (kv.1, d) else kv) (ws.map fun kv => if kv.1 = k then (kv.1, v) else kv)
  | [], _, h => by rw [show _ = [] from h]; simp [RK]
  | (k', d') :: r, _, ⟨v', s, e, h1, h2⟩ => by
    rw [e, List.map_cons, List.map_cons]
    by_cases hk : k' = k
    · rw [if_pos hk, if_pos hk]; exact ⟨v, _, rfl, h, RK.repl k h h2⟩
    · rw [if_neg hk, if_neg hk]; exact ⟨v', _, rfl, h1, RK.repl k h h2⟩
theorem RK.append : ∀ {kvs : List (κ × D)} {ws : List (κ × V)} {kvs' : List (κ × D)} {ws' : List (κ × V)}, RK μ H kvs ws → RK μ H kvs' ws' → RK μ H (kvs ++ kvs') (ws ++ ws')
  | [], _, _, _, h, h' => by rw [show _ = [] from h]; exact h'
  | (k', d') :: r, _, _, _, ⟨v', s, e, h1, h2⟩, h' => by rw [e]; exact ⟨v', _, rfl, h1, RK.append h2 h'⟩
theorem RK.put {kvs : List (κ × D)} {ws : List (κ × V)} (k : κ) {d : D} {v : V} (r : RK μ H kvs ws) (h : RV μ H d v) : RK μ H (dPut kvs k d) (putK ws k v) := by
  unfold dPut putK
  rw [r.any k]
  split
  · exact RK.repl k h r
  · exact r.append ⟨v, [], rfl, h, rfl⟩
theorem RK.drop (k : κ) : ∀ {kvs : List (κ × D)} {ws : List (κ × V)}, RK μ H kvs ws → RK μ H (dDrop kvs k) (dropK ws k)
  | [], _, h => by rw [show _ = [] from h]; simp [RK, dDrop, dropK]
  | (k', d') :: r, _, ⟨v', s, e, h1, h2⟩ => by
    have ih := RK.drop k h2
    rw [e]
    unfold dDrop dropK at ih ⊢
    rw [List.filter_cons, List.filter_cons]
    by_cases hk : k' = k
    · simp only [hk, ne_eq, not_true_eq_false, decide_false, Bool.false_eq_true, if_false]
      exact ih
    · simp only [hk, ne_eq, not_false_eq_true, decide_true, if_true]
      exact ⟨v', _, rfl, h1, ih⟩
end
section
variable {T : Ad} {μ : Mu} {H : Hp} {M : Mem} {X : Cx} {Q : VK}
theorem RK.merge : ∀ {more : List (Key × D)} {ms : List (Key × V)} {kvs : List (Key × D)} {ws : List (Key × V)}, RK μ H more ms → RK μ H kvs ws → RK μ H (dMerge kvs more) (mergeK ws ms)
  | [], _, _, _, h, h' => by rw [show _ = [] from h]; exact h'
  | (k', d') :: r, _, _, _, ⟨v', s, e, h1, h2⟩, h' => by
    rw [e]
    exact RK.merge (more := r) (ms := s) h2 (h'.put k' h1)
theorem key_rv {d : D} {v : V} {k : Key} (r : RV μ H d v) (e : keyOf d = some k) : v = kV k := by
  cases d <;> simp only [keyOf, Option.some.injEq, reduceCtorEq] at e <;> (subst e; exact r)
theorem look_ok (R : Rep T μ H M) {x y : D} {v u : V} {o : Option D} (rx : RV μ H x v) (ry : RV μ H y u) (e : look M x y = some o) :
    ∃ a o', v = .ref a ∧ DGet H a u o' ∧ (∀ d, o = some d → ∃ w, o' = some w ∧ RV μ H d w) ∧ (o = none → o' = none) ∧ ∃ kvs, H a = some (.dK kvs) := by
  cases x with
  | ref n =>
    obtain ⟨a, rfl, ha⟩ := rx
    simp only [look] at e
    cases q : M[n]? with
    | none => rw [q] at e; cases e
    | some ob =>
      rw [q] at e
      cases ob with
      | dK kvs =>
        obtain ⟨ws, h, z, r⟩ := R.obj n a _ ha q
        cases hk : keyOf y with
        | none => simp only [hk, Option.map_none] at e; cases e
        | some k =>
          simp only [hk, Option.map_some, Option.some.injEq] at e
          have hu := key_rv ry hk
          obtain ⟨g1, g2⟩ := r.get k
          refine ⟨a, valV ws k, rfl, by rw [hu]; exact DGet.k h, fun d hd => g1 d (e.trans hd), fun hn => g2 (e.trans hn), ws, h⟩
      | _ => cases e
  | _ => cases e

/-! ### in -/
def rInAll (K : PySem.W.Frag) (neg : Bool) : R2 := fun x y H Q => rInT K neg x y H Q ∨ (∃ d ds, Dp K H x d ∧ Dp K H y (.list ds) ∧ SeqAt.shaped d = true ∧ SeqAt.shaped (.list ds) = true ∧ Q (.bl (if neg then !(ds.any fun z => PyData.eqv z d) else ds.any fun z => PyData.eqv z d)) H) ∨
  (∃ a o, y = .ref a ∧ DGet H a x o ∧ Q (.bl (if neg then !o.isSome else o.isSome)) H) ∨ (∃ (c : Nat) (z : Str), x = .str ⟨#[c]⟩ ∧ y = .str z ∧ Q (.bl (if neg then !decide (c ∈ z.cps.toList) else decide (c ∈ z.cps.toList))) H)
theorem op_inAll (hu : X.A.units + 65 < cLine) : OpR X (compareOp .In) (rInAll X.K false) := by
  intro pins s σ H x y v u Q I rx ry h
  rcases h with h | h | ⟨a, o, rfl, g, q⟩ | h
  · exact op_inT hu pins s σ H x y v u Q I rx ry h
  · exact op_inD hu pins s σ H x y v u Q I rx ry h
  · cases ry
    exact d_in (by omega) I g rx fun s' I' => ⟨.bl _, H, I', rfl, q⟩
  · exact op_in_sign pins s σ H x y v u Q I rx ry h
theorem op_notInAll (hu : X.A.units + 65 < cLine) : OpR X (compareOp .NotIn) (rInAll X.K true) := by
  intro pins s σ H x y v u Q I rx ry h
  rcases h with h | h | ⟨a, o, rfl, g, q⟩ | h
  · exact op_notInT hu pins s σ H x y v u Q I rx ry h
  · exact op_notInD hu pins s σ H x y v u Q I rx ry h
  · cases ry
    exact d_notIn (by omega) I g rx fun s' I' => ⟨.bl _, H, I', rfl, q⟩
  · exact op_notIn_sign pins s σ H x y v u Q I rx ry h
theorem pyL_any {x : D} (hx : x.plain = true) : ∀ ds : List D, D.plainL ds = true → ((D.pyL ds).any fun z => PyData.eqv z x.py) = ds.any fun z => z.eqv x
  | [], _ => rfl
  | d :: ds, h => by
    simp only [D.plainL, Bool.and_eq_true] at h
    simp only [D.pyL, List.any_cons, py_eqv d x h.1 hx, pyL_any hx ds h.2]
theorem good_plain {d : D} (h : d.good = true) : d.plain = true := by simp only [D.good, Bool.and_eq_true] at h; exact h.1
theorem isIn_ok {K : PySem.W.Frag} (R : Rep T μ H M) {x y : D} {v u : V} {b : Bool} (neg : Bool) (rx : RV μ H x v) (ry : RV μ H y u) (e : isIn M x y = some b) (q : Q (.bl (if neg then !b else b)) H) : rInAll K neg v u H Q := by
  cases y with
  | tup xs =>
    simp only [isIn] at e
    split at e
    · rename_i hg
      simp only [Bool.and_eq_true] at hg
      obtain rfl := Option.some.inj e
      have hp : D.plainL xs = true := by have := good_plain hg.2; simpa [D.plain] using this
      refine .inl ⟨x.py, D.pyL xs, RV.dp x v rx (good_plain hg.1), ?_, py_shaped hg.1, ?_, ?_⟩
      · have := RV.dp (K := K) (.tup xs) u ry (good_plain hg.2)
        simpa [D.py] using this
      · have := py_shaped hg.2
        simpa [D.py] using this
      · rw [pyL_any (good_plain hg.1) xs hp]; exact q
    · cases e
  | lst xs =>
    simp only [isIn] at e
    split at e
    · rename_i hg
      simp only [Bool.and_eq_true] at hg
      obtain rfl := Option.some.inj e
      have hp : D.plainL xs = true := by have := good_plain hg.2; simpa [D.plain] using this
      refine .inr (.inl ⟨x.py, D.pyL xs, RV.dp x v rx (good_plain hg.1), ?_, py_shaped hg.1, ?_, ?_⟩)
      · have := RV.dp (K := K) (.lst xs) u ry (good_plain hg.2)
        simpa [D.py] using this
      · have := py_shaped hg.2
        simpa [D.py] using this
      · rw [pyL_any (good_plain hg.1) xs hp]; exact q
    · cases e
  | ref n =>
    cases qn : M[n]? with
    | none => simp only [isIn, qn, look, Option.map_none] at e; cases e
    | some o =>
      cases o with
      | lst xs =>
        simp only [isIn, qn] at e
        split at e
        · rename_i hg
          simp only [Bool.and_eq_true] at hg
          obtain rfl := Option.some.inj e
          have hp : D.plainL xs = true := by have := good_plain hg.2; simpa [D.plain] using this
          have hd : deref M (.ref n) = .lst xs := by simp only [deref, qn]
          refine .inr (.inl ⟨x.py, D.pyL xs, RV.dp x v rx (good_plain hg.1), ?_, py_shaped hg.1, ?_, ?_⟩)
          · have := deref_dp (K := K) R ry (by rw [hd]; exact hg.2)
            rw [hd] at this
            simpa [D.py] using this
          · have := py_shaped hg.2
            simpa [D.py] using this
          · rw [pyL_any (good_plain hg.1) xs hp]; exact q
        · cases e
      | dK kvs =>
        simp only [isIn, qn] at e
        cases hl : look M (.ref n) x with
        | none => rw [hl] at e; cases e
        | some o =>
          rw [hl] at e
          simp only [Option.map_some, Option.some.injEq] at e
          obtain ⟨a, o', rfl, g, g1, g2, _⟩ := look_ok R ry rx hl
          refine .inr (.inr (.inl ⟨a, o', rfl, g, ?_⟩))
          have : o'.isSome = b := by
            rw [← e]
            cases o with
            | none => rw [g2 rfl]; rfl
            | some d => obtain ⟨w, e1, _⟩ := g1 d rfl; rw [e1]; rfl
          rw [this]; exact q
      | dT kvs => simp only [isIn, qn, look, Option.map_none] at e; cases e
      | ins C fs => simp only [isIn, qn, look, Option.map_none] at e; cases e
  | str t =>
    cases x with
    | str z =>
      simp only [isIn] at e
      split at e
      · rename_i hl
        obtain rfl := Option.some.inj e
        obtain rfl := rx
        obtain rfl := ry
        obtain ⟨cps⟩ := z
        have hc : ∃ c, cps = #[c] := by
          have h1 : cps.size = 1 := hl
          obtain ⟨l⟩ := cps
          match l, h1 with
          | [c], _ => exact ⟨c, rfl⟩
        obtain ⟨c, rfl⟩ := hc
        refine .inr (.inr (.inr ⟨c, t, rfl, rfl, ?_⟩))
        have : (t.cps.toList.any fun c' => decide ((#[c] : Array Nat).toList = [c'])) = decide (c ∈ t.cps.toList) := by
          rw [Bool.eq_iff_iff]
          simp only [List.any_eq_true, decide_eq_true_eq]
          constructor
          · rintro ⟨c', h1, h2⟩
            have : c = c' := by simpa using h2
            rw [this]; exact h1
          · intro h
            exact ⟨c, h, rfl⟩
        rw [← this]
        exact q
      · cases e
    | _ => simp only [isIn] at e; cases e
  | _ => simp only [isIn] at e; cases e

/-! ### comparisons -/
def rOrd (op : CmpOp) : R2 := fun x y H Q => (∃ i j b, x = .int i ∧ y = .int j ∧ cmpI op i j = some b ∧ Q (.bl b) H) ∨ ∃ i j b, x = .str i ∧ y = .str j ∧ cmpS op i j = some b ∧ Q (.bl b) H
theorem op_ord (op : CmpOp) : OpR X (compareOp op) (rOrd op) := by
  intro pins s σ H x y v u Q I rx ry h
  rcases h with ⟨i, j, b, rfl, rfl, e, q⟩ | ⟨i, j, b, rfl, rfl, e, q⟩
  · cases op <;> simp only [cmpI, Option.some.injEq, reduceCtorEq] at e <;> subst e
    · exact op_lt pins s σ H _ _ v u Q I rx ry ⟨i, j, rfl, rfl, q⟩
    · exact op_le pins s σ H _ _ v u Q I rx ry ⟨i, j, rfl, rfl, q⟩
    · exact op_gt pins s σ H _ _ v u Q I rx ry ⟨i, j, rfl, rfl, q⟩
    · exact op_ge pins s σ H _ _ v u Q I rx ry ⟨i, j, rfl, rfl, q⟩
  · cases op <;> simp only [cmpS, Option.some.injEq, reduceCtorEq] at e <;> subst e
    · exact op_lt_str pins s σ H _ _ v u Q I rx ry ⟨i, j, rfl, rfl, q⟩
    · exact op_le_str pins s σ H _ _ v u Q I rx ry ⟨i, j, rfl, rfl, q⟩
    · exact op_gt_str pins s σ H _ _ v u Q I rx ry ⟨i, j, rfl, rfl, q⟩
    · exact op_ge_str pins s σ H _ _ v u Q I rx ry ⟨i, j, rfl, rfl, q⟩
def rCmp (K : PySem.W.Frag) : CmpOp → R2
  | .Eq => fun x y H Q => rEq x y H Q ∨ rEqD K x y H Q
  | .NotEq => fun x y H Q => rNe x y H Q ∨ rNeD K x y H Q
  | .In => rInAll K false
  | .NotIn => rInAll K true
  | .Is => fun _ _ _ _ => False
  | .IsNot => fun _ _ _ _ => False
  | .Lt => rOrd .Lt
  | .LtE => rOrd .LtE
  | .Gt => rOrd .Gt
  | .GtE => rOrd .GtE
theorem op_cmp (hu : X.A.units + 65 < cLine) (op : CmpOp) : OpR X (compareOp op) (rCmp X.K op) := by
  cases op with
  | Eq => exact op_eq.or (op_eqD (by omega))
  | NotEq => exact op_ne.or (op_neD (by omega))
  | In => exact op_inAll hu
  | NotIn => exact op_notInAll hu
  | Is => intro pins s σ H x y v u Q I rx ry h; exact h.elim
  | IsNot => intro pins s σ H x y v u Q I rx ry h; exact h.elim
  | Lt => exact op_ord .Lt
  | LtE => exact op_ord .LtE
  | Gt => exact op_ord .Gt
  | GtE => exact op_ord .GtE
theorem ord_rv (op : CmpOp) {x y : D} {v u : V} {b : Bool} (rx : RV μ H x v) (ry : RV μ H y u) (e : ordD op x y = some b) (q : Q (.bl b) H) : rOrd op v u H Q := by
  cases x <;> cases y <;> simp only [ordD, reduceCtorEq] at e
  · obtain rfl := rx; obtain rfl := ry; exact .inl ⟨_, _, b, rfl, rfl, e, q⟩
  · obtain rfl := rx; obtain rfl := ry; exact .inr ⟨_, _, b, rfl, rfl, e, q⟩
theorem cmp_ok {K : PySem.W.Frag} (R : Rep T μ H M) {op : CmpOp} {x y : D} {v u : V} {b : Bool} (rx : RV μ H x v) (ry : RV μ H y u) (e : cmpD op M x y = some b) (q : Q (.bl b) H) : rCmp K op v u H Q := by
  cases op with
  | Eq => exact eq_ok R rx ry e q
  | NotEq =>
    simp only [cmpD] at e
    cases h : eqD M x y with
    | none => rw [h] at e; cases e
    | some c =>
      rw [h] at e
      obtain rfl := Option.some.inj e
      exact ne_ok R rx ry h q
  | In => exact isIn_ok R false rx ry e q
  | NotIn =>
    simp only [cmpD] at e
    cases h : isIn M x y with
    | none => rw [h] at e; cases e
    | some c =>
      rw [h] at e
      obtain rfl := Option.some.inj e
      exact isIn_ok R true rx ry h q
  | Is => cases e
  | IsNot => cases e
  | Lt => exact ord_rv .Lt rx ry e q
  | LtE => exact ord_rv .LtE rx ry e q
  | Gt => exact ord_rv .Gt rx ry e q
  | GtE => exact ord_rv .GtE rx ry e q

/-! ### a[b] -/
def rIdx (K : PySem.W.Frag) : R2 := fun x y H Q => rIx K x y H Q ∨ ∃ a v, x = .ref a ∧ DGet H a y (some v) ∧ Q v H
theorem ix_all (hu : X.A.units + 1 < cLine) : IxR X (rIdx X.K) := ix_seq.or (ix_dict hu)
theorem idx_seq {K : PySem.W.Frag} (R : Rep T μ H M) {x y : D} {v u : V} {d : D} {xs : List D} (rx : RV μ H x v) (ry : RV μ H y u) (e : seqOf M x = some xs) {i : Int} (hy : y = .int i) (ha : atI xs i = some d) (f : Fin T μ H d M Q) : rIdx K v u H Q := by
  subst hy
  obtain rfl := ry
  obtain ⟨a, vs, rfl, z, q, h⟩ := seq_rv R rx e
  obtain ⟨w, e1, e2⟩ := q.atI ha
  rcases h with ⟨o, h, _⟩ | ⟨h, _⟩
  · exact .inl (.inr (.inl ⟨a, vs, i, w, rfl, rfl, .inl (.inr ⟨o, h⟩), e1, f.same R e2⟩))
  · exact .inl (.inl ⟨a, vs, i, w, rfl, rfl, .inl h, e1, f.same R e2⟩)
theorem idx_ok {K : PySem.W.Frag} (R : Rep T μ H M) {x y : D} {v u : V} {d : D} {M' : Mem} (rx : RV μ H x v) (ry : RV μ H y u) (e : idx M x y = .ok d M') (f : Fin T μ H d M' Q) : rIdx K v u H Q := by
  have step : ∀ xs : List D, seqOf M x = some xs → atD M xs y = .ok d M' → rIdx K v u H Q := fun xs hs e => by
    cases y with
    | int i =>
      simp only [atD] at e
      cases h : atI xs i with
      | none => rw [h] at e; cases e
      | some d' =>
        rw [h] at e
        injection e with e1 e2
        subst e1 e2
        exact idx_seq R rx ry hs rfl h f
    | _ => cases e
  cases x with
  | tup xs => exact step xs rfl e
  | lst xs => exact step xs rfl e
  | ref n =>
    simp only [idx] at e
    cases q : M[n]? with
    | none =>
      rw [q] at e
      simp only [look, q] at e
      cases e
    | some o =>
      rw [q] at e
      cases o with
      | lst xs => exact step xs (by simp only [seqOf, q]) e
      | _ =>
        simp only at e
        cases hl : look M (.ref n) y with
        | none => rw [hl] at e; cases e
        | some o =>
          rw [hl] at e
          cases o with
          | none => cases e
          | some d' =>
            injection e with e1 e2
            subst e1 e2
            obtain ⟨a, o', rfl, g, g1, g2, _⟩ := look_ok R rx ry hl
            obtain ⟨w, e1, e2⟩ := g1 _ rfl
            rw [e1] at g
            exact .inr ⟨a, w, rfl, g, f.same R e2⟩
  | _ => cases e

/-! ### operators -/
def rAddAll (K : PySem.W.Frag) : R2 := fun x y H Q => (∃ i j, x = .int i ∧ y = .int j ∧ Q (.int (i + j)) H) ∨ rCatZ K x y H Q ∨ rCatR x y H Q
def rMulAll : R2 := fun x y H Q => rI CMul (fun i j => .int (i * j)) x y H Q ∨ rRepR x y H Q
def opOf : Op2 → Operator
  | .add _ => .Add | .sub => .Sub | .mul _ => .Mult | .fdiv => .FloorDiv | .mod => .Mod
def rOp2 (K : PySem.W.Frag) : Op2 → R2
  | .add _ => rAddAll K
  | .sub => rI0 fun i j => .int (i - j)
  | .mul _ => rMulAll
  | .fdiv => rI CDiv fun i j => .int (i / j)
  | .mod => rI (fun _ j => 0 < j) fun i j => .int (i % j)
theorem op_op2 (op : Op2) : OpR X (binaryOp (opOf op)) (rOp2 X.K op) := by
  cases op with
  | add m => exact op_add.or (op_catZ.or op_catR)
  | sub => exact op_sub
  | mul m => exact op_mul.or op_repR
  | fdiv => exact op_fdiv
  | mod => exact op_mod
theorem small_ok {i : Int} (h : small64 i = true) : -(2 ^ 64) < i ∧ i < 2 ^ 64 := of_decide_eq_true h
end
end MP

/-! Mp2d: operators, built-in functions and methods. -/
namespace MP
open PySem PySem.Spec PyProof.Rows L2
/-! ### sorting -/
theorem insI_perm (x : Int) : ∀ l : List Int, (insI x l).Perm (x :: l)
  | [] => .refl _
  | y :: ys => by
    unfold insI
    split
    · exact .refl _
    · exact ((insI_perm x ys).cons y).trans (.swap x y ys)
theorem sortI_perm : ∀ l : List Int, (sortI l).Perm l
  | [] => .refl _
  | x :: xs => (insI_perm x (sortI xs)).trans ((sortI_perm xs).cons x)
theorem insI_sorted (x : Int) : ∀ {l : List Int}, l.Pairwise (· ≤ ·) → (insI x l).Pairwise (· ≤ ·)
  | [], _ => by simp [insI]
  | y :: ys, h => by
    unfold insI
    have hy := List.pairwise_cons.mp h
    split
    · rename_i hxy
      refine List.pairwise_cons.mpr ⟨fun a ha => ?_, h⟩
      rcases List.mem_cons.mp ha with rfl | ha
      · exact hxy
      · exact Int.le_trans hxy (hy.1 a ha)
    · rename_i hxy
      refine List.pairwise_cons.mpr ⟨fun a ha => ?_, insI_sorted x hy.2⟩
      rcases List.mem_cons.mp ((insI_perm x ys).mem_iff.mp ha) with rfl | ha
      · omega
      · exact hy.1 a ha
theorem sortI_sorted : ∀ l : List Int, (sortI l).Pairwise (· ≤ ·)
  | [] => .nil
  | x :: xs => insI_sorted x (sortI_sorted xs)
theorem sortI_unique {a b : List Int} (hp : a.Perm b) (ha : a.Pairwise (· ≤ ·)) : a = sortI b :=
  List.Perm.eq_of_pairwise (le := (· ≤ ·)) (fun _ _ _ _ h1 h2 => Int.le_antisymm h1 h2) ha (sortI_sorted b) (hp.trans (sortI_perm b).symm)
section
variable {T : Ad} {μ : Mu} {H : Hp} {M : Mem} {X : Cx} {Q : VK}
theorem ints_rv : ∀ {ds : List D} {ns : List Int} {vs : List V}, RVs μ H ds vs → intsOf ds = some ns → vs = ns.map V.int ∧ ds = ns.map D.int
  | [], ns, vs, h, e => by
    obtain rfl : [] = ns := Option.some.inj e
    exact ⟨h, rfl⟩
  | d :: ds, ns, vs, ⟨x, r, e1, h1, h2⟩, e => by
    cases d with
    | int i =>
      simp only [intsOf] at e
      cases q : intsOf ds with
      | none => rw [q] at e; cases e
      | some ms =>
        rw [q] at e
        obtain rfl : i :: ms = ns := Option.some.inj e
        obtain ⟨g1, g2⟩ := ints_rv h2 q
        exact ⟨by rw [e1, g1, show x = V.int i from h1]; rfl, by rw [g2]; rfl⟩
    | _ => cases e
theorem rvs_ints : ∀ ns : List Int, RVs μ H (ns.map D.int) (ns.map V.int)
  | [] => rfl
  | n :: ns => ⟨_, _, rfl, rfl, rvs_ints ns⟩
theorem bls_rv : ∀ {ds : List D} {ns : List Bool} {vs : List V}, RVs μ H ds vs → blsOf ds = some ns → vs = ns.map V.bl
  | [], ns, vs, h, e => by
    obtain rfl : [] = ns := Option.some.inj e
    exact h
  | d :: ds, ns, vs, ⟨x, r, e1, h1, h2⟩, e => by
    cases d with
    | bl i =>
      simp only [blsOf] at e
      cases q : blsOf ds with
      | none => rw [q] at e; cases e
      | some ms =>
        rw [q] at e
        obtain rfl : i :: ms = ns := Option.some.inj e
        rw [e1, bls_rv h2 q, show x = V.bl i from h1]; rfl
    | _ => cases e
theorem kints_rv : ∀ {kvs : List (Key × D)} {ns : List Int} {ws : List (Key × V)}, RK μ H kvs ws → kintsOf kvs = some ns → ws.map (·.1) = ns.map Sum.inl
  | [], ns, vs, h, e => by
    obtain rfl : [] = ns := Option.some.inj e
    rw [show vs = [] from h]; rfl
  | (k, d) :: ds, ns, vs, ⟨x, r, e1, h1, h2⟩, e => by
    cases k with
    | inl i =>
      simp only [kintsOf] at e
      cases q : kintsOf ds with
      | none => rw [q] at e; cases e
      | some ms =>
        rw [q] at e
        obtain rfl : i :: ms = ns := Option.some.inj e
        rw [e1, List.map_cons, kints_rv h2 q]; rfl
    | inr s => cases e
theorem pairsOf_cons {d : D} {ds : List D} {kvs : List (Key × D)} (e : pairsOf (d :: ds) = some kvs) : ∃ k v key ms, d = .tup [k, v] ∧ keyOf k = some key ∧ pairsOf ds = some ms ∧ kvs = (key, v) :: ms := by
  cases d with
  | tup xs =>
    cases xs with
    | nil => cases e
    | cons k xs =>
      cases xs with
      | nil => cases e
      | cons v xs =>
        cases xs with
        | nil =>
          simp only [pairsOf] at e
          cases q : pairsOf ds with
          | none => rw [q] at e; cases hk : keyOf k <;> rw [hk] at e <;> cases e
          | some ms =>
            rw [q] at e
            cases hk : keyOf k with
            | none => rw [hk] at e; cases e
            | some key =>
              rw [hk] at e
              exact ⟨k, v, key, ms, rfl, hk, rfl, (Option.some.inj e).symm⟩
        | cons w xs => cases e
  | _ => cases e
/-- pairs of a key and a value -/
theorem pairs_rv {K : PySem.W.Frag} : ∀ {ds : List D} {kvs : List (Key × D)} {vs : List V}, RVs μ H ds vs → pairsOf ds = some kvs →
    ∃ (ps : List Addr) (ws : List (Key × V)), vs = ps.map V.ref ∧ Paired (fun p kv => SqT K H p [kV kv.1, kv.2]) ps ws ∧ RK μ H kvs ws
  | [], kvs, vs, h, e => by
    obtain rfl : [] = kvs := Option.some.inj e
    exact ⟨[], [], h, .nil, rfl⟩
  | d :: ds, kvs, vs, ⟨x, r, e1, h1, h2⟩, e => by
    obtain ⟨k, v, key, ms, rfl, hk, q, rfl⟩ := pairsOf_cons e
    obtain ⟨ps, ws, g1, g2, g3⟩ := pairs_rv (K := K) h2 q
    obtain ⟨a, o, xs, rfl, n, h, od, z, y1, r1, rfl, hy1, y2, r2, rfl, hy2, h9⟩ := h1
    obtain rfl : r2 = [] := h9
    have : y1 = kV key := key_rv hy1 hk
    subst this
    exact ⟨a :: ps, (key, y2) :: ws, by rw [e1, g1]; rfl, .cons (.inl (.inr ⟨o, h⟩)) g2, y2, ws, rfl, hy2, g3⟩
/-! ### operators -/
theorem op2_ok {K : PySem.W.Frag} (R : Rep T μ H M) {op : Op2} {x y : D} {v u : V} {d : D} {M' : Mem} (rx : RV μ H x v) (ry : RV μ H y u) (e : op2 op x y M = .ok d M') (f : Fin T μ H d M' Q) : rOp2 K op v u H Q := by
  have lists : ∀ m, (match deref M x, deref M y with
      | .lst xs, .lst ys => if xs.length + ys.length ≤ big then newL m (xs ++ ys) M else .stuck
      | _, _ => .stuck) = MP.R.ok d M' → rAddAll K v u H Q := fun m e => by
    cases h1 : deref M x with
    | lst xs =>
      cases h2 : deref M y with
      | lst ys =>
        rw [h1, h2] at e
        simp only at e
        split at e
        · rename_i hz
          obtain ⟨a, vs, rfl, z1, q1, d1⟩ := deref_rd R rx h1
          obtain ⟨b, ws, rfl, z2, q2, d2⟩ := deref_rd R ry h2
          have hl : vs.length + ws.length ≤ sizeLine := by rw [← q1.length, ← q2.length, ← big_eq]; exact hz
          exact .inr (.inr ⟨a, b, vs, ws, rfl, rfl, d1, d2, hl, fun p hp => f.newL R e (q1.append q2) (by rw [List.length_append]; exact hl) p hp⟩)
        · cases e
      | _ => rw [h1, h2] at e; cases e
    | _ => rw [h1] at e; simp only at e; cases e
  cases op with
  | add m =>
    cases x with
    | int i =>
      cases y with
      | int j =>
        injection e with e1 e2
        subst e1 e2
        obtain rfl := rx
        obtain rfl := ry
        exact .inl ⟨i, j, rfl, rfl, f.same R rfl⟩
      | _ => exact lists m e
    | tup xs =>
      cases y with
      | tup ys =>
        simp only [op2] at e
        split at e
        · rename_i hz
          injection e with e1 e2
          subst e1 e2
          obtain ⟨a, o, vs, rfl, n1, h1, od1, z1, q1⟩ := id rx
          obtain ⟨b, o2, ws, rfl, n2, h2, od2, z2, q2⟩ := id ry
          have hl : vs.length + ws.length ≤ sizeLine := by rw [← q1.length, ← q2.length, ← big_eq]; exact hz
          refine .inr (.inl ⟨a, b, vs, ws, rfl, rfl, .inl (.inr ⟨o, h1⟩), .inl (.inr ⟨o2, h2⟩), hl, fun hv => ?_, fun _ hw => ?_, fun _ _ p o hp ho => f.newT R (q1.append q2) (by rw [List.length_append]; exact hl) p o hp ho⟩)
          · have hx : xs = [] := by
              have := q1.length
              rw [hv] at this
              exact List.length_eq_zero_iff.mp this
            subst hx
            exact f.same R ry
          · have hy : ys = [] := by
              have := q2.length
              rw [hw] at this
              exact List.length_eq_zero_iff.mp this
            subst hy
            refine f.same R ?_
            rw [List.append_nil]
            exact rx
        · cases e
      | _ => exact lists m e
    | _ => exact lists m e
  | sub =>
    cases x <;> cases y <;> first | (cases e; done) | skip
    injection e with e1 e2
    subst e1 e2
    obtain rfl := rx
    obtain rfl := ry
    exact ⟨_, _, rfl, rfl, f.same R rfl⟩
  | mul m =>
    cases x with
    | int i =>
      cases y with
      | int j =>
        simp only [op2] at e
        split at e
        · rename_i hs
          injection e with e1 e2
          subst e1 e2
          obtain rfl := rx
          obtain rfl := ry
          simp only [Bool.or_eq_true] at hs
          refine .inl ⟨i, j, rfl, rfl, ?_, f.same R rfl⟩
          rcases hs with hs | hs
          · exact .inl (small_ok hs)
          · exact .inr (small_ok hs)
        · cases e
      | _ => cases e
    | _ =>
      cases y with
      | int k =>
        simp only [op2] at e
        split at e
        · rename_i xs hx
          split at e
          · rename_i hs
            obtain ⟨a, vs, rfl, z1, q1, d1⟩ := deref_rd R rx hx
            obtain rfl := ry
            have hl : vs.length * k.toNat ≤ sizeLine := by rw [← q1.length, ← big_eq]; exact hs.2.2
            refine .inr ⟨a, k, vs, rfl, rfl, d1, hs.1, hs.2.1, hl, fun p hp => f.newL R e (q1.rep _) ?_ p hp⟩
            rw [PyProof.Rows.lm_len_rep_flat, Nat.mul_comm]
            exact hl
          · cases e
        · cases e
      | _ => cases e
  | fdiv =>
    cases x <;> cases y <;> first | (cases e; done) | skip
    simp only [op2] at e
    split at e
    · rename_i hs
      injection e with e1 e2
      subst e1 e2
      obtain rfl := rx
      obtain rfl := ry
      exact ⟨_, _, rfl, rfl, hs, f.same R rfl⟩
    · cases e
  | mod =>
    cases x <;> cases y <;> first | (cases e; done) | skip
    simp only [op2] at e
    split at e
    · rename_i hs
      injection e with e1 e2
      subst e1 e2
      obtain rfl := rx
      obtain rfl := ry
      exact ⟨_, _, rfl, rfl, hs, f.same R rfl⟩
    · cases e
/-! ### built-in functions -/
def rLenAll (K : PySem.W.Frag) : List V → Hp → VK → Prop := fun xs H Q => (∃ x n, xs = [x] ∧ LenV K x H n ∧ Q (.int n) H) ∨ ∃ a kvs, xs = [V.ref a] ∧ H a = some (.dK kvs) ∧ Q (.int kvs.length) H
def rB (K : PySem.W.Frag) : B → List V → Hp → VK → Prop
  | .len => rLenAll K
  | .tuple => fun xs H Q => ∃ p ys, xs = [.ref p] ∧ ((SqL K H p ys ∧ ∀ l o, H l = none → o.dict = none → Q (.ref l) (upd H l (.frz o (.tup ys)))) ∨ (SqT K H p ys ∧ Q (.ref p) H))
  | .list _ => fun xs H Q => ∃ p ys, xs = [.ref p] ∧ (SqL K H p ys ∨ SqT K H p ys) ∧ ∀ l, H l = none → Q (.ref l) (upd H l (.lst ys))
  | .dict => fun xs H Q => (∃ (a : Addr) (o : Obj) (ps : List Addr) (kvs : List (Key × V)), xs = [.ref a] ∧ H a = some (.frz o (.tup (ps.map V.ref))) ∧ o.dict = none ∧ Paired (fun p kv => SqT K H p [kV kv.1, kv.2]) ps kvs ∧ ∀ p, H p = none → Q (.ref p) (upd H p (.dK (mergeK [] kvs)))) ∨
      ∃ (a : Addr) (ps : List Addr) (kvs : List (Key × V)), xs = [.ref a] ∧ SqL K H a (ps.map V.ref) ∧ Paired (fun p kv => SqT K H p [kV kv.1, kv.2]) ps kvs ∧ ∀ p, H p = none → Q (.ref p) (upd H p (.dK (mergeK [] kvs)))
  | .sorted _ => fun xs H Q => rSortedI K xs H Q ∨ ∃ (a : Addr) (kvs : List (Key × V)) (ks : List Int), xs = [.ref a] ∧ Rd H a (.dK kvs) ∧ kvs.map (·.1) = ks.map Sum.inl ∧
      ∀ (ys : List Int) (p : Addr), ys.Perm ks → ys.Pairwise (· ≤ ·) → H p = none → Q (.ref p) (upd H p (.lst (ys.map V.int)))
  | .all => rAll K
  | .any => rAny K
  | .int => fun xs H Q => (∃ i, xs = [.int i] ∧ Q (.int i) H) ∨ ∃ k, xs = [.bl k] ∧ Q (.int (if k then 1 else 0)) H
  | .max => fun xs H Q => ∃ i j, xs = [.int i, .int j] ∧ Q (.int (if j > i then j else i)) H
  | .min => fun xs H Q => ∃ i j, xs = [.int i, .int j] ∧ Q (.int (if j < i then j else i)) H
  | .listrng _ => fun _ _ _ => False
/-- how the builtin stands: a function or a type -/
def bFun : B → Option String
  | .len => some "len" | .sorted _ => some "sorted" | .all => some "all" | .any => some "any" | .max => some "max" | .min => some "min" | _ => none
def bTy : B → Option String
  | .tuple => some "tuple" | .list _ => some "list" | .dict => some "dict" | .int => some "int" | _ => none
theorem cr_fun (hc : X.calm = true) (f : B) {id : String} (h : bFun f = some id) : CallR X (.builtin id) (rB X.K f) := by
  cases f <;> simp only [bFun, Option.some.injEq, reduceCtorEq] at h <;> subst h
  · exact call_len.or call_lenD
  · exact cr_sortedI.or (call_sortedDI hc)
  · exact cr_all hc
  · exact cr_any hc
  · exact call_max2 hc
  · exact call_min2 hc
theorem cr_ty (hc : X.calm = true) (f : B) {id : String} (h : bTy f = some id) : CallR X (.type id) (rB X.K f) := by
  cases f <;> simp only [bTy, Option.some.injEq, reduceCtorEq] at h <;> subst h
  · exact call_tupleZ
  · exact call_list_of
  · exact (call_dictZ hc).or (call_dictP hc)
  · exact call_int1
theorem sorted_seq {K : PySem.W.Frag} (R : Rep T μ H M) {m : Bool} {x : D} {v : V} {xs : List D} {ns : List Int} {d : D} {M' : Mem} (rx : RV μ H x v) (hs : seqOf M x = some xs) (ht : ∀ zs, x ≠ .tup zs) (hi : intsOf xs = some ns)
    (e : newL m ((sortI ns).map D.int) M = .ok d M') (f : Fin T μ H d M' Q) : rB K (.sorted m) [v] H Q := by
  obtain ⟨a, vs, rfl, z, q, h⟩ := seq_rv R rx hs
  rcases h with ⟨o, h, _, h3⟩ | ⟨h, _⟩
  · exact absurd h3 (ht _)
  · obtain ⟨g1, g2⟩ := ints_rv q hi
    subst g1
    refine .inl ⟨a, ns, rfl, .inl h, fun ns' p hp hsd hn => ?_⟩
    have := sortI_unique hp hsd
    subst this
    refine f.newL R e (rvs_ints _) ?_ p hn
    rw [List.length_map, (sortI_perm ns).length_eq]
    rw [List.length_map] at z
    exact z
theorem bltF_ok {K : PySem.W.Frag} (R : Rep T μ H M) {g : B} {ds : List D} {vs : List V} {d : D} {M' : Mem} (hg : ∀ m, g ≠ .listrng m) (r : RVs μ H ds vs) (e : bltF g ds M = .ok d M') (f : Fin T μ H d M' Q) : rB K g vs H Q := by
  cases ds with
  | nil => cases g <;> cases e
  | cons x ds =>
    obtain ⟨v, r', rfl, rx, r2⟩ := r
    cases ds with
    | nil =>
      obtain rfl : r' = [] := r2
      cases g with
      | len =>
        cases x with
        | str s =>
          simp only [bltF] at e
          split at e
          · rename_i hz
            injection e with e1 e2
            subst e1 e2
            obtain rfl := rx
            exact .inl ⟨_, s.length, rfl, ⟨by rw [← big_eq]; exact hz, rfl⟩, f.same R rfl⟩
          · cases e
        | tup xs =>
          injection e with e1 e2
          subst e1 e2
          obtain ⟨a, o, vs, rfl, n1, h1, od1, z1, q1⟩ := rx
          exact .inl ⟨_, xs.length, rfl, .inr ⟨vs, .inl (.inr ⟨o, h1⟩), q1.length⟩, f.same R rfl⟩
        | lst xs =>
          injection e with e1 e2
          subst e1 e2
          obtain ⟨a, vs, rfl, n1, h1, z1, q1⟩ := rx
          exact .inl ⟨_, xs.length, rfl, .inl ⟨vs, .inl h1, q1.length⟩, f.same R rfl⟩
        | ref n =>
          simp only [bltF] at e
          cases q : M[n]? with
          | none => rw [q] at e; cases e
          | some o =>
            rw [q] at e
            obtain ⟨a, rfl, ha⟩ := rx
            cases o with
            | lst xs =>
              injection e with e1 e2
              subst e1 e2
              obtain ⟨vs, h, z, r⟩ := R.obj n a _ ha q
              exact .inl ⟨_, xs.length, rfl, .inl ⟨vs, .inl (.inl h), r.length⟩, f.same R rfl⟩
            | dK kvs =>
              injection e with e1 e2
              subst e1 e2
              obtain ⟨vs, h, z, r⟩ := R.obj n a _ ha q
              refine .inr ⟨a, vs, rfl, h, ?_⟩
              rw [← r.length]
              exact f.same R rfl
            | _ => cases e
        | _ => cases e
      | tuple =>
        simp only [bltF] at e
        cases hs : seqOf M x with
        | none => rw [hs] at e; cases e
        | some xs =>
          rw [hs] at e
          injection e with e1 e2
          subst e1 e2
          obtain ⟨a, vs, rfl, z, q, h⟩ := seq_rv R rx hs
          rcases h with ⟨o, h, _, h3⟩ | ⟨h, _⟩
          · subst h3
            exact ⟨a, vs, rfl, .inr ⟨.inl (.inr ⟨o, h⟩), f.same R rx⟩⟩
          · exact ⟨a, vs, rfl, .inl ⟨.inl h, fun l o hl ho => f.newT R q z l o hl ho⟩⟩
      | list m =>
        simp only [bltF] at e
        cases hs : seqOf M x with
        | none => rw [hs] at e; cases e
        | some xs =>
          rw [hs] at e
          obtain ⟨a, vs, rfl, z, q, h⟩ := seq_sq (K := K) R rx hs
          exact ⟨a, vs, rfl, h, fun l hl => f.newL R e q z l hl⟩
      | dict =>
        simp only [bltF] at e
        cases hs : seqOf M x with
        | none => rw [hs] at e; cases e
        | some xs =>
          rw [hs] at e
          simp only at e
          cases hp : pairsOf xs with
          | none => rw [hp] at e; cases e
          | some kvs =>
            rw [hp] at e
            injection e with e1 e2
            subst e1 e2
            obtain ⟨a, vs, rfl, z, q, h⟩ := seq_rv R rx hs
            obtain ⟨ps, ws, rfl, g2, g3⟩ := pairs_rv (K := K) q hp
            have fin : ∀ p, H p = none → Q (.ref p) (upd H p (.dK (mergeK [] ws))) := fun p hpn => by
              have hlen : (mergeK [] ws).length ≤ sizeLine := by
                refine Nat.le_trans (length_mergeK ws []) ?_
                rw [List.length_nil, Nat.zero_add, ← Paired.length g2]
                rw [List.length_map] at z
                exact z
              have key : RO T (μ.add p) (upd H p (.dK (mergeK [] ws))) (.dK (dMerge [] kvs)) p := by
                refine ⟨_, upd_same, hlen, ?_⟩
                have g : Grow μ H (μ.add p) (upd H p (.dK (mergeK [] ws))) := .alloc hpn
                exact RK.grow g _ _ (RK.merge g3 rfl)
              obtain ⟨R', g⟩ := R.alloc hpn key
              exact f _ _ _ g R' ⟨p, rfl, by rw [← R.len]; simp [Mu.add]⟩
            rcases h with ⟨o, h, od, h3⟩ | ⟨h, _⟩
            · exact .inl ⟨a, o, ps, ws, rfl, h, od, g2, fin⟩
            · exact .inr ⟨a, ps, ws, rfl, .inl h, g2, fin⟩
      | sorted m =>
        simp only [bltF] at e
        cases hs : sorted M x with
        | none => rw [hs] at e; cases e
        | some xs =>
          rw [hs] at e
          simp only at e
          cases x with
          | lst ys =>
            simp only [sorted] at hs
            cases hi : intsOf ys with
            | none => rw [hi] at hs; cases hs
            | some ns =>
              rw [hi] at hs
              obtain rfl := Option.some.inj hs
              exact sorted_seq R rx rfl (fun _ h => nomatch h) hi e f
          | ref n =>
            simp only [sorted] at hs
            cases q : M[n]? with
            | none => rw [q] at hs; cases hs
            | some o =>
              rw [q] at hs
              cases o with
              | lst ys =>
                simp only at hs
                cases hi : intsOf ys with
                | none => rw [hi] at hs; cases hs
                | some ns =>
                  rw [hi] at hs
                  obtain rfl := Option.some.inj hs
                  exact sorted_seq R rx (by simp only [seqOf, q]) (fun _ h => nomatch h) hi e f
              | dK kvs =>
                simp only at hs
                cases hi : kintsOf kvs with
                | none => rw [hi] at hs; cases hs
                | some ns =>
                  rw [hi] at hs
                  obtain rfl := Option.some.inj hs
                  obtain ⟨a, rfl, ha⟩ := rx
                  obtain ⟨ws, h, z, r⟩ := R.obj n a _ ha q
                  refine .inr ⟨a, ws, ns, rfl, .inl h, kints_rv r hi, fun ys p hp hsd hn => ?_⟩
                  have := sortI_unique hp hsd
                  subst this
                  refine f.newL R e (rvs_ints _) ?_ p hn
                  have hl := congrArg List.length (kints_rv r hi)
                  rw [List.length_map, List.length_map] at hl
                  rw [List.length_map, (sortI_perm ns).length_eq, ← hl]
                  exact z
              | _ => cases hs
          | _ => cases hs
      | all =>
        simp only [bltF] at e
        cases hs : deref M x with
        | lst xs =>
          rw [hs] at e
          simp only at e
          cases hp : blsOf xs with
          | none => rw [hp] at e; cases e
          | some bs =>
            rw [hp] at e
            injection e with e1 e2
            subst e1 e2
            obtain ⟨a, vs, rfl, z1, q1, d1⟩ := deref_rd R rx hs
            have := bls_rv q1 hp
            subst this
            exact ⟨a, bs, rfl, .inl d1, f.same R rfl⟩
        | _ => rw [hs] at e; cases e
      | any =>
        simp only [bltF] at e
        cases hs : deref M x with
        | lst xs =>
          rw [hs] at e
          simp only at e
          cases hp : blsOf xs with
          | none => rw [hp] at e; cases e
          | some bs =>
            rw [hp] at e
            injection e with e1 e2
            subst e1 e2
            obtain ⟨a, vs, rfl, z1, q1, d1⟩ := deref_rd R rx hs
            have := bls_rv q1 hp
            subst this
            exact ⟨a, bs, rfl, .inl d1, f.same R rfl⟩
        | _ => rw [hs] at e; cases e
      | int =>
        cases x with
        | int i =>
          injection e with e1 e2
          subst e1 e2
          obtain rfl := rx
          exact .inl ⟨i, rfl, f.same R rfl⟩
        | bl i =>
          injection e with e1 e2
          subst e1 e2
          obtain rfl := rx
          exact .inr ⟨i, rfl, f.same R rfl⟩
        | _ => cases e
      | max => cases x <;> cases e
      | min => cases x <;> cases e
      | listrng m => exact absurd rfl (hg m)
    | cons y ds =>
      obtain ⟨u, r3, rfl, ry, r4⟩ := r2
      cases ds with
      | nil =>
        obtain rfl : r3 = [] := r4
        cases g with
        | max =>
          cases x <;> cases y <;> first | (cases e; done) | skip
          injection e with e1 e2
          subst e1 e2
          obtain rfl := rx
          obtain rfl := ry
          exact ⟨_, _, rfl, f.same R rfl⟩
        | min =>
          cases x <;> cases y <;> first | (cases e; done) | skip
          injection e with e1 e2
          subst e1 e2
          obtain rfl := rx
          obtain rfl := ry
          exact ⟨_, _, rfl, f.same R rfl⟩
        | int => cases x <;> cases e
        | listrng m => exact absurd rfl (hg m)
        | _ => cases e
      | cons z ds =>
        cases g with
        | int => cases x <;> cases e
        | max => cases x <;> cases y <;> cases e
        | min => cases x <;> cases y <;> cases e
        | listrng m => exact absurd rfl (hg m)
        | _ => cases e
end
end MP

/-! Mp2e: static contexts, the matcher of expressions, what is wanted behind them. -/
namespace MP
open PySem PySem.Spec PyProof.Rows L2
/-- what stands written: the names by slot, the scope, whether an except suite runs, the names whose cells are this code's own -/
structure Cs where
  N : List Str
  sc : Scope
  calm : Bool
  fn : Str → Bool
structure Tab where
  fns : List (Str × Option Str)
  cls : List Str
  flds : List Str
  glbs : List Str
  excs : List Str
structure Wd where
  T : Ad
  P : Prog
  tb : Tab
  pr : Program
  w : World
  K : PySem.W.Frag
  mg : Str → Option Value
  base : Heap
/-! ### the text -/
def visB (sc : Scope) (x : Str) : Bool := match sc.names.lookup x with
  | some .local => true | some .cell => true | some .free => true | _ => false
def locB (sc : Scope) (x : Str) : Bool := match sc.names.lookup x with
  | some .local => true | some .cell => true | _ => false
def glB (sc : Scope) (x : Str) : Bool := decide (sc.names.lookup x = some .globalImplicit) && !(x == ("__debug__" : Str)) && decide (x ≠ "__name__")
def starB : Expr → Bool
  | .Starred _ _ => true
  | _ => false
def sliceB : Expr → Bool
  | .Slice _ _ _ _ => true
  | _ => false
/-- f(): asked as super() may be -/
def call0B : Expr → Bool
  | .Call (.Name _ _) [] [] _ => true
  | _ => false
def constD : Const → Option D
  | .none => some .non
  | .bool b => some (.bl b)
  | .int i => some (.int i)
  | .str s => some (.str s)
  | _ => none
def bName : B → Str
  | .len => "len" | .tuple => "tuple" | .list _ => "list" | .dict => "dict" | .sorted _ => "sorted" | .all => "all" | .any => "any" | .int => "int" | .max => "max" | .min => "min" | .listrng _ => "list"
def tyName : Ty → String
  | .int => "int" | .str => "str" | .bool => "bool" | .tuple => "tuple" | .list => "list"
def bmName : BM → Str
  | .append => "append" | .extend => "extend" | .lpop => "pop" | .dpop => "pop" | .dget => "get"
/-- the built-in names that are asked for -/
def bltNames : List Str := ["len", "tuple", "list", "dict", "sorted", "all", "any", "int", "max", "min", "isinstance", "str", "bool", "range", "zip", "enumerate"]
def Cs.blk (c : Cs) (scope : Scope) : Cs := { N := c.N, sc := relS scope c.sc, calm := c.calm, fn := fun x => scope.names.lookup x == some .cell }
/-- places of the own names in N -/
def ownB (c : Cs) (own : List Nat) : List (Str × Nat) := own.map fun i => (c.N.getD i Str.empty, i)
mutual
def mTg (c : Cs) : Tg → Expr → Bool
  | .name i, e => (match e with | .Name x _ => decide (c.N[i]? = some x) && locB c.sc x && (c.fn x || decide (c.sc.names.lookup x = some .local)) | _ => false)
  | .tup ts, e => (match e with | .Tuple es _ _ => c.calm && mTgs c ts es | _ => false)
  | .nil, _ => false
  | .cons _ _, _ => false
def mTgs (c : Cs) : Tg → List Expr → Bool
  | .nil, es => es.isEmpty
  | .cons t ts, es => (match es with | e :: r => !starB e && mTg c t e && mTgs c ts r | [] => false)
  | .name _, _ => false
  | .tup _, _ => false
end
/-- what is walked: its arguments -/
def itArgs (k : ItK) (c : Cs) (tg it : Expr) : Option (List Expr) := match k with
  | .seq => (match it with | .Set _ _ _ => none | _ => some [it])
  | .range => (match it with
    | .Call (.Name x _) (y :: es) [] _ => if decide (x = "range") && glB c.sc x && decide (es.length < 2) then some (y :: es) else none
    | _ => none)
  | .zip => (match it with
    | .Call (.Name x _) [y, z] [] _ => (match tg with
      | .Tuple _ _ _ => if decide (x = "zip") && glB c.sc x then some [y, z] else none
      | _ => none)
    | _ => none)
  | .enum => (match it with
    | .Call (.Name x _) [y] [] _ => (match tg with
      | .Tuple _ _ _ => if decide (x = "enumerate") && glB c.sc x then some [y] else none
      | _ => none)
    | _ => none)
/-- a if t else b is no test by itself here -/
def E.isIfe : E → Bool
  | .ife _ _ _ => true
  | _ => false
mutual
def mE (T : Tab) : E → Cs → Expr → Bool
  | .var i, c, e => (match e with | .Name x _ => decide (c.N[i]? = some x) && visB c.sc x && !(x == ("__debug__" : Str)) && !(x == ("__classdict__" : Str)) | _ => false)
  | .cst d, c, e => (match e with | .Constant k _ _ => decide (constD k = some d) | _ => false)
  | .tup as, c, e => (match e with | .Tuple es _ _ => mEs T as c es | _ => false)
  | .lst _ as, c, e => (match e with | .List es _ => mEs T as c es | _ => false)
  | .dnew _, _, e => (match e with | .Dict [] [] _ => true | _ => false)
  | .bin op a b, c, e => (match e with | .BinOp l o r _ => decide (o = opOf op) && mE T a c l && mE T b c r | _ => false)
  | .neg a, c, e => (match e with | .UnaryOp .USub x _ => mE T a c x | _ => false)
  | .not a, c, e => (match e with | .UnaryOp .Not x _ => !a.isIfe && mE T a c x | _ => false)
  | .and a b, c, e => (match e with
    | .BoolOp .And [x, y] _ => !a.isIfe && !b.isIfe && mE T a c x && mE T b c y
    | .BoolOp .And (x :: y :: z :: r) p => !a.isIfe && mE T a c x && mE T b c (.BoolOp .And (y :: z :: r) p)
    | _ => false)
  | .or a b, c, e => (match e with
    | .BoolOp .Or [x, y] _ => !a.isIfe && !b.isIfe && mE T a c x && mE T b c y
    | .BoolOp .Or (x :: y :: z :: r) p => !a.isIfe && mE T a c x && mE T b c (.BoolOp .Or (y :: z :: r) p)
    | _ => false)
  | .cmp op a b, c, e => (match e with | .Compare l [o] [r] _ => decide (o = op) && !behindInMarks o r && mE T a c l && mE T b c r | _ => false)
  | .isN n a, c, e => (match e with | .Compare l [o] [.Constant .none _ _] _ => decide (o = if n then CmpOp.IsNot else CmpOp.Is) && mE T a c l | _ => false)
  | .chn op op' a b d, c, e => (match e with | .Compare l [o, o'] [r, r'] _ => decide (o = op) && decide (o' = op') && !behindInMarks o' r' && mE T a c l && mE T b c r && mE T d c r' | _ => false)
  | .ife t a b, c, e => (match e with | .IfExp x y z _ => !t.isIfe && mE T t c x && mE T a c y && mE T b c z | _ => false)
  | .idx a b, c, e => (match e with | .Subscript x y _ => !sliceB y && mE T a c x && mE T b c y | _ => false)
  | .slc _ a lo hi, c, e => (match e with
    | .Subscript x (.Slice l h none _) _ => mE T a c x && (match l with | none => lo.isNil | some y => !lo.isNil && mE T lo c y) && (match h with | none => hi.isNil | some y => !hi.isNil && mE T hi c y)
    | _ => false)
  | .rev a, c, e => (match e with
    | .Subscript x (.Slice none none (some (.UnaryOp .USub (.Constant (.int k) _ _) _)) _) _ => decide (k = 1) && mE T a c x
    | _ => false)
  | .call f as, c, e => (match e with
    | .Call (.Name x _) (y :: es) [] _ => c.calm && decide (T.fns[f]? = some (x, none)) && glB c.sc x && mEs T as c (y :: es)
    | _ => false)
  | .blt f as, c, e => (match f with
    | .listrng _ => (match e with
      | .Call (.Name x _) [.Call (.Name z _) [y] [] _] [] _ => c.calm && decide (x = "list") && decide (z = "range") && glB c.sc x && glB c.sc z && mEs T as c [y]
      | _ => false)
    | f => (match e with
      | .Call (.Name x _) (y :: es) [] _ => c.calm && decide (x = bName f) && glB c.sc x && mEs T as c (y :: es)
      | _ => false))
  | .isi a t, c, e => (match e with
    | .Call (.Name x _) [y, .Name z _] [] _ => decide (x = "isinstance") && decide (z = Str.ofString (tyName t)) && glB c.sc x && glB c.sc z && !starB y && mE T a c y
    | _ => false)
  | .bm f a as, c, e => (match e with
    | .Call (.Attribute o m ap) (y :: es) [] cp => c.calm && decide (m = bmName f) && !call0B o && decide (ap.endLine = cp.line) && decide (es.length < 20) && (match f with | .dpop => es.isEmpty | .dget => decide (es.length = 1) | .lpop => true | .append => true | .extend => true) && mE T a c o && mEs T as c (y :: es)
    | _ => false)
  | .comp _ own t k src cd el, c, e => (match e with
    | .ListComp elt [⟨tg, it, ifs, 0⟩] scope _ => c.calm && blkC c.N c.sc scope (ownB c own) && (t.slots.all fun i => own.contains i) && mTg (c.blk scope) t tg && mE T el (c.blk scope) elt &&
        (match ifs with | [] => cd.isNil | [x] => !cd.isNil && !cd.isIfe && mE T cd (c.blk scope) x | _ => false) && (match itArgs k c tg it with | some es => mEs T src c es | none => false)
    | _ => false)
  | .nil, _, _ => false
  | .cons _ _, _, _ => false
  | .glb _, _, _ => false
  | .fld _ _, _, _ => false
  | .meth _ _ _ _, _, _ => false
  | .make _ _ _, _, _ => false
def mEs (T : Tab) : E → Cs → List Expr → Bool
  | .nil, _, es => es.isEmpty
  | .cons a as, c, es => (match es with | e :: r => !starB e && mE T a c e && mEs T as c r | [] => false)
  | _, _, _ => false
end

/-! ### what is wanted -/
section
variable (W : Wd) (Wx : WX) (σ : L2.St) (μ : Mu) (H : Hp)
def Post {α : Type} (G : α → Mem → Prop) : R α → Prop
  | .ok a M => G a M
  | .exc c M => ∀ μ' H', Grow μ H μ' H' → Rep W.T μ' H' M → Wx (.ref (W.T.xa c)) none σ H'
  | .stuck => False
def FinL (ds : List D) (M' : Mem) (Q : List V → Hp → Prop) : Prop := ∀ vs μ' H', Grow μ H μ' H' → Rep W.T μ' H' M' → RVs μ' H' ds vs → Q vs H'
def FinB (b : Bool) (M' : Mem) (Q : Bool → Hp → Prop) : Prop := ∀ μ' H', Grow μ H μ' H' → Rep W.T μ' H' M' → Q b H'
end
section
variable (W : Wd) (n : Nat) (Wx : WX)
abbrev Wd.ev (W : Wd) (n : Nat) (a : E) (ρ : Env) (M : Mem) : R D := eval W.P.gl (callF W.P n) a ρ M
abbrev Wd.evL (W : Wd) (n : Nat) (a : E) (ρ : Env) (M : Mem) : R (List D) := evalL W.P.gl (callF W.P n) a ρ M
def tD (a : E) : TE := fun σ H Q => ∃ μ ρ M, Rep W.T μ H M ∧ REnv μ H σ ρ ∧ Post W Wx σ μ H (fun d M' => Fin W.T μ H d M' Q) (W.ev n a ρ M)
def tL (a : E) : TA := fun σ H Q => ∃ μ ρ M, Rep W.T μ H M ∧ REnv μ H σ ρ ∧ Post W Wx σ μ H (fun d M' => FinL W μ H d M' Q) (W.evL n a ρ M)
def tT (a : E) : TT := fun σ H Q => ∃ μ ρ M, Rep W.T μ H M ∧ REnv μ H σ ρ ∧ Post W Wx σ μ H (fun b M' => FinB W μ H b M' Q) ((W.ev n a ρ M).bind toTest)
end
section
variable {W : Wd} {n : Nat} {Wx : WX} {σ : L2.St} {μ μ' : Mu} {H H' : Hp} {M : Mem} {ρ : Env}
theorem Post.mono {α : Type} {G G' : α → Mem → Prop} {r : R α} (h : Post W Wx σ μ H G r) (k : ∀ a M, r = .ok a M → G a M → G' a M) : Post W Wx σ μ H G' r := by
  cases r with
  | ok a M => exact k a M rfl h
  | exc c M => exact h
  | stuck => exact h
theorem Post.bind {α β : Type} {G : β → Mem → Prop} {G' : α → Mem → Prop} {r : R α} {f : α → Mem → R β} (h : Post W Wx σ μ H G (r.bind f)) (k : ∀ a M, r = .ok a M → Post W Wx σ μ H G (f a M) → G' a M) : Post W Wx σ μ H G' r := by
  cases r with
  | ok a M => exact k a M rfl h
  | exc c M => exact h
  | stuck => exact h
theorem Post.move {α : Type} {G G' : α → Mem → Prop} {r : R α} (g : Grow μ H μ' H') (h : Post W Wx σ μ H G r) (k : ∀ a M, G a M → G' a M) : Post W Wx σ μ' H' G' r := by
  cases r with
  | ok a M => exact k a M h
  | exc c M => exact fun μ2 H2 g2 R2 => h μ2 H2 (g.trans g2) R2
  | stuck => exact h
theorem Fin.move {T : Ad} {d : D} {M' : Mem} {Q : VK} (g : Grow μ H μ' H') (f : Fin T μ H d M' Q) : Fin T μ' H' d M' Q := fun v μ2 H2 g2 R2 r => f v μ2 H2 (g.trans g2) R2 r
theorem FinL.move {d : List D} {M' : Mem} {Q : List V → Hp → Prop} (g : Grow μ H μ' H') (f : FinL W μ H d M' Q) : FinL W μ' H' d M' Q := fun v μ2 H2 g2 R2 r => f v μ2 H2 (g.trans g2) R2 r
theorem FinB.move {d : Bool} {M' : Mem} {Q : Bool → Hp → Prop} (g : Grow μ H μ' H') (f : FinB W μ H d M' Q) : FinB W μ' H' d M' Q := fun μ2 H2 g2 R2 => f μ2 H2 (g.trans g2) R2
abbrev PostE (W : Wd) (Wx : WX) (σ : L2.St) (μ : Mu) (H : Hp) (Q : VK) (r : R D) : Prop := Post W Wx σ μ H (fun d M' => Fin W.T μ H d M' Q) r
abbrev PostL (W : Wd) (Wx : WX) (σ : L2.St) (μ : Mu) (H : Hp) (Q : List V → Hp → Prop) (r : R (List D)) : Prop := Post W Wx σ μ H (fun d M' => FinL W μ H d M' Q) r
abbrev PostB (W : Wd) (Wx : WX) (σ : L2.St) (μ : Mu) (H : Hp) (Q : Bool → Hp → Prop) (r : R Bool) : Prop := Post W Wx σ μ H (fun d M' => FinB W μ H d M' Q) r
/-- an expression's reading, then more -/
theorem tD_step {β : Type} {a : E} {G : Mu → Hp → β → Mem → Prop} {f : D → Mem → R β} {R1 : VK} (R : Rep W.T μ H M) (E : REnv μ H σ ρ) (h : Post W Wx σ μ H (G μ H) ((W.ev n a ρ M).bind f))
    (mv : ∀ μ' H', Grow μ H μ' H' → ∀ b M, G μ H b M → G μ' H' b M)
    (k : ∀ d M1 v μ1 H1, Grow μ H μ1 H1 → Rep W.T μ1 H1 M1 → REnv μ1 H1 σ ρ → RV μ1 H1 d v → Post W Wx σ μ1 H1 (G μ1 H1) (f d M1) → R1 v H1) : tD W n Wx a σ H R1 :=
  ⟨μ, ρ, M, R, E, h.bind fun d M1 e p v μ1 H1 g R' r => k d M1 v μ1 H1 g R' (E.grow g) r (p.move g (mv μ1 H1 g))⟩
theorem tL_step {β : Type} {a : E} {G : Mu → Hp → β → Mem → Prop} {f : List D → Mem → R β} {R1 : List V → Hp → Prop} (R : Rep W.T μ H M) (E : REnv μ H σ ρ) (h : Post W Wx σ μ H (G μ H) ((W.evL n a ρ M).bind f))
    (mv : ∀ μ' H', Grow μ H μ' H' → ∀ b M, G μ H b M → G μ' H' b M)
    (k : ∀ d M1 v μ1 H1, Grow μ H μ1 H1 → Rep W.T μ1 H1 M1 → REnv μ1 H1 σ ρ → RVs μ1 H1 d v → Post W Wx σ μ1 H1 (G μ1 H1) (f d M1) → R1 v H1) : tL W n Wx a σ H R1 :=
  ⟨μ, ρ, M, R, E, h.bind fun d M1 e p v μ1 H1 g R' r => k d M1 v μ1 H1 g R' (E.grow g) r (p.move g (mv μ1 H1 g))⟩
theorem mvE {Q : VK} : ∀ μ' H', Grow μ H μ' H' → ∀ (b : D) (M : Mem), Fin W.T μ H b M Q → Fin W.T μ' H' b M Q := fun _ _ g _ _ f => f.move g
theorem mvL {Q : List V → Hp → Prop} : ∀ μ' H', Grow μ H μ' H' → ∀ (b : List D) (M : Mem), FinL W μ H b M Q → FinL W μ' H' b M Q := fun _ _ g _ _ f => f.move g
theorem mvB {Q : Bool → Hp → Prop} : ∀ μ' H', Grow μ H μ' H' → ∀ (b : Bool) (M : Mem), FinB W μ H b M Q → FinB W μ' H' b M Q := fun _ _ g _ _ f => f.move g
end
theorem _root_.L2.PE.weak {X : Cx} {e : Expr} {t t' : TE} (h : PE X e t) (w : ∀ σ H Q, t' σ H Q → t σ H Q) : PE X e t' := ⟨fun pins s σ H Q I q => h.run pins s σ H Q I (w _ _ _ q)⟩
theorem _root_.L2.PT.weak {X : Cx} {e : Expr} {t t' : TT} (h : PT X e t) (w : ∀ σ H Q, t' σ H Q → t σ H Q) : PT X e t' := ⟨fun pins s σ H Q I q => h.run pins s σ H Q I (w _ _ _ q)⟩
theorem _root_.L2.PA.weak {X : Cx} {e : List Expr} {t t' : TA} (h : PA X e t) (w : ∀ σ H Q, t' σ H Q → t σ H Q) : PA X e t' := ⟨fun pos pins s σ H Q I q => h.run pos pins s σ H Q I (w _ _ _ q)⟩
/-! ### what a def promises -/
def spF (W : Wd) (n f : Nat) : Sp := fun vs H Q E => ∃ (fn : Fn) (μ : Mu) (M : Mem) (ds : List D), W.P.funs[f]? = some fn ∧ ds.length = fn.np ∧ Rep W.T μ H M ∧ RVs μ H ds vs ∧
  (match callF W.P n f ds M with
    | .ok d M' => Fin W.T μ H d M' Q
    | .exc c M' => ∀ μ' H', Grow μ H μ' H' → Rep W.T μ' H' M' → E (.ref (W.T.xa c)) none H'
    | .stuck => False)
structure Wd.Ok (W : Wd) (n : Nat) : Prop where
  blt : ∀ x ∈ bltNames, W.mg x = none
  fn : ∀ f x, W.tb.fns[f]? = some (x, none) → ∃ fa fd ps, W.mg x = some (.ref fa) ∧ PySem.W.keepIn W.K (.ref fa) = true ∧ Binds W.K fd ps [] ∧ FnOk W.pr W.w W.K W.mg W.base (L2.CX W.pr W.w) (2 * n) fa fd ps (spF W n f)
/-- the own exceptions -/
structure Wd.Exs (W : Wd) : Prop where
  exc : ∀ k x, W.tb.excs[k]? = some x → ∃ B newId initId bmB, ExcBaseFacts B newId initId bmB ∧ PySem.W.excIn W.K (W.T.xa k) bmB newId = true ∧ W.mg x = some (.ref (W.T.xa k)) ∧ PySem.W.keepIn W.K (.ref (W.T.xa k)) = true ∧
    PySem.W.subIn W.K (.ref (W.T.xa k)) (.type "BaseException") = some true ∧ PySem.W.typeIn W.K (.ref (W.T.xa k)) = some (.type "type")
  exm : ∀ k' k b, W.P.subAt k' k = some b → PySem.W.exmOne W.K (.ref (W.T.xa k')) (.ref (W.T.xa k)) = some b
structure Conf (W : Wd) (n : Nat) (X : Cx) (c : Cs) : Prop where
  pr : X.prog = W.pr
  w : X.w = W.w
  K : X.K = W.K
  mg : X.mg = W.mg
  base : X.base = W.base
  N : X.N = c.N
  nd : X.N.Nodup
  sc : X.env.scope = c.sc
  calm : X.calm = c.calm
  fn : ∀ x, X.fn x = c.fn x
  room : c.calm = true → Room (2 * n + 1) X.A
  un : X.A.units + 65 < cLine
end MP

/-! Mp2f: each construct of an expression. -/
namespace MP
open PySem PySem.Spec PyProof.Rows L2
section
variable {W : Wd} {n : Nat} {Wx : WX} {X : Cx} {c : Cs} {e l r x y z : Expr} {es : List Expr} {a b d as : E} {pos p : Pos}
theorem visB_ok {sc : Scope} {x : Str} (h : visB sc x = true) : Vis sc x := by
  unfold visB at h
  split at h <;> first | cases h | skip
  · exact .inl (by assumption)
  · exact .inr (.inl (by assumption))
  · exact .inr (.inr (by assumption))
theorem locB_ok {sc : Scope} {x : Str} (h : locB sc x = true) : Loc sc x := by
  unfold locB at h
  split at h <;> first | cases h | skip
  · exact .inl (by assumption)
  · exact .inr (by assumption)
theorem glB_ok (C : Conf W n X c) {x : Str} (h : glB c.sc x = true) : Gl X x ∧ (x == ("__debug__" : Str)) = false ∧ x ≠ "__name__" := by
  unfold glB at h
  simp only [Bool.and_eq_true, decide_eq_true_eq, Bool.not_eq_true'] at h
  refine ⟨?_, h.1.2, h.2⟩
  show X.env.scope.names.lookup x = _
  rw [C.sc]
  exact h.1.1
theorem e_var (C : Conf W n X c) {i : Nat} {x : Str} (h : c.N[i]? = some x) (hv : visB c.sc x = true) (h1 : (x == ("__debug__" : Str)) = false) (h2 : (x == ("__classdict__" : Str)) = false) : PE X (.Name x pos) (tD W n Wx (.var i)) := by
  refine (pe_var (by rw [C.N]; exact h) (by rw [C.sc]; exact visB_ok hv) h1 h2).weak fun σ H Q q => ?_
  obtain ⟨μ, ρ, M, R, E, q⟩ := q
  simp only [Wd.ev, eval] at q
  split at q
  · rename_i d hd
    obtain ⟨v, hv, rv⟩ := E.2 i d hd
    exact ⟨v, hv, Fin.same q R rv⟩
  · exact q.elim
theorem e_cst {k : Const} {j : Nat} (h : constD k = some d') : PE X (.Constant k j pos) (tD W n Wx (.cst d')) := by
  have key : ∀ v : V, (∀ μ H, RV μ H d' v) → PE X (.Constant k j pos) (tC v) → PE X (.Constant k j pos) (tD W n Wx (.cst d')) := fun v hv hp => hp.weak fun σ H Q q => by
    obtain ⟨μ, ρ, M, R, E, q⟩ := q
    exact Fin.same (show Fin W.T μ H d' M Q from q) R (hv μ H)
  cases k <;> simp only [constD, Option.some.injEq, reduceCtorEq] at h <;> subst h
  · exact key .non (fun _ _ => rfl) pe_non
  · exact key (.bl _) (fun _ _ => rfl) pe_bl
  · exact key (.int _) (fun _ _ => rfl) pe_int
  · exact key (.str _) (fun _ _ => rfl) pe_str
theorem e_tup {k : Nat} (ha : PA X es (tL W n Wx as)) : PE X (.Tuple es k pos) (tD W n Wx (.tup as)) := by
  refine (pe_tupZ ha).weak fun σ H Q q => ?_
  obtain ⟨μ, ρ, M, R, E, q⟩ := q
  refine tL_step (G := fun μ H d M' => Fin W.T μ H d M' Q) R E q mvE fun ds M1 vs μ1 H1 g R1 E1 rv p => ?_
  split at p
  · rename_i hz
    have hz' : vs.length ≤ sizeLine := by rw [← rv.length, ← big_eq]; exact hz
    exact ⟨hz', fun p' o hp ho => Fin.newT R1 rv hz' p p' o hp ho⟩
  · exact p.elim
theorem post_newL {m : Bool} {xs : List D} {vs : List V} {σ : L2.St} {μ : Mu} {H : Hp} {M : Mem} {Q : VK} (R : Rep W.T μ H M) (rv : RVs μ H xs vs) (hz : vs.length ≤ sizeLine) (p : PostE W Wx σ μ H Q (newL m xs M)) :
    ∀ p, H p = none → Q (.ref p) (upd H p (.lst vs)) := by
  cases e : newL m xs M with
  | ok d M' =>
    rw [e] at p
    exact fun q hq => Fin.newL R e rv hz p q hq
  | exc c M' =>
    unfold newL at e
    split at e <;> cases e
  | stuck => rw [e] at p; exact p.elim
theorem e_lst {m : Bool} (ha : PA X es (tL W n Wx as)) : PE X (.List es pos) (tD W n Wx (.lst m as)) := by
  refine (pe_lst ha).weak fun σ H Q q => ?_
  obtain ⟨μ, ρ, M, R, E, q⟩ := q
  refine tL_step (G := fun μ H d M' => Fin W.T μ H d M' Q) R E q mvE fun ds M1 vs μ1 H1 g R1 E1 rv p => ?_
  split at p
  · rename_i hz
    have hz' : vs.length ≤ sizeLine := by rw [← rv.length, ← big_eq]; exact hz
    exact ⟨hz', post_newL R1 rv hz' p⟩
  · exact p.elim
theorem e_dnew {t : Bool} : PE X (.Dict [] [] pos) (tD W n Wx (.dnew t)) := by
  cases t with
  | true =>
    refine pe_dnewT.weak fun σ H Q q => ?_
    obtain ⟨μ, ρ, M, R, E, q⟩ := q
    intro p hp
    obtain ⟨R', g⟩ := R.alloc (o := .dT []) (u := .dT []) hp ⟨[], upd_same, Nat.zero_le _, rfl⟩
    exact (show Fin W.T μ H (.ref M.length) (M ++ [.dT []]) Q from q) _ _ _ g R' ⟨p, rfl, by rw [← R.len]; simp [Mu.add]⟩
  | false =>
    refine pe_dnewK.weak fun σ H Q q => ?_
    obtain ⟨μ, ρ, M, R, E, q⟩ := q
    intro p hp
    obtain ⟨R', g⟩ := R.alloc (o := .dK []) (u := .dK []) hp ⟨[], upd_same, Nat.zero_le _, rfl⟩
    exact (show Fin W.T μ H (.ref M.length) (M ++ [.dK []]) Q from q) _ _ _ g R' ⟨p, rfl, by rw [← R.len]; simp [Mu.add]⟩
/-- a primitive on two values -/
theorem post2 {σ : L2.St} {μ : Mu} {H : Hp} {Q : VK} {r : R D} (p : PostE W Wx σ μ H Q r) (nx : ∀ c M, r ≠ .exc c M) : ∃ d M', r = .ok d M' ∧ Fin W.T μ H d M' Q := by
  cases r with
  | ok d M' => exact ⟨d, M', rfl, p⟩
  | exc c M' => exact absurd rfl (nx c M')
  | stuck => exact p.elim
theorem nx_newL {m : Bool} {xs : List D} {M : Mem} : ∀ c M', newL m xs M ≠ .exc c M' := fun c M' h => by
  unfold newL at h
  split at h <;> cases h
theorem nx_op2 {op : Op2} {x y : D} {M : Mem} : ∀ c M', op2 op x y M ≠ .exc c M' := fun c M' h => by
  unfold op2 at h
  repeat' (first | (cases h; done) | exact nx_newL _ _ h | split at h)
theorem e_bin {op : Op2} (ha : PE X l (tD W n Wx a)) (hb : PE X r (tD W n Wx b)) : PE X (.BinOp l (opOf op) r pos) (tD W n Wx (.bin op a b)) := by
  refine (pe_op (op_op2 op) ha hb).weak fun σ H Q q => ?_
  obtain ⟨μ, ρ, M, R, E, q⟩ := q
  refine tD_step (G := fun μ H d M' => Fin W.T μ H d M' Q) R E q mvE fun d M1 v μ1 H1 g R1 E1 rv p => ?_
  refine tD_step (G := fun μ H d M' => Fin W.T μ H d M' Q) R1 E1 p mvE fun d2 M2 v2 μ2 H2 g2 R2 E2 rv2 p2 => ?_
  obtain ⟨d3, M3, e3, f3⟩ := post2 p2 nx_op2
  exact op2_ok R2 (RV.grow g2 _ _ rv) rv2 e3 f3
theorem e_neg (ha : PE X x (tD W n Wx a)) : PE X (.UnaryOp .USub x pos) (tD W n Wx (.neg a)) := by
  refine (pe_un un_neg ha).weak fun σ H Q q => ?_
  obtain ⟨μ, ρ, M, R, E, q⟩ := q
  refine tD_step (G := fun μ H d M' => Fin W.T μ H d M' Q) R E q mvE fun d M1 v μ1 H1 g R1 E1 rv p => ?_
  cases d with
  | int i =>
    obtain rfl := rv
    exact ⟨i, rfl, Fin.same p R1 rfl⟩
  | _ => exact p.elim
theorem post_ofB {σ : L2.St} {μ : Mu} {H : Hp} {M : Mem} {Q : VK} {o : Option Bool} (R : Rep W.T μ H M) (p : PostE W Wx σ μ H Q (MP.R.ofB o M)) : ∃ b, o = some b ∧ Q (.bl b) H := by
  cases o with
  | none => exact p.elim
  | some b => exact ⟨b, rfl, Fin.same p R rfl⟩
theorem e_not (ha : PE X x (tD W n Wx a)) : PE X (.UnaryOp .Not x pos) (tD W n Wx (.not a)) := by
  refine (pe_notT ha).weak fun σ H Q q => ?_
  obtain ⟨μ, ρ, M, R, E, q⟩ := q
  refine tD_step (G := fun μ H d M' => Fin W.T μ H d M' Q) R E q mvE fun d M1 v μ1 H1 g R1 E1 rv p => ?_
  obtain ⟨b, e, hb⟩ := post_ofB R1 p
  cases ht : truth M1 d with
  | none => rw [ht] at e; cases e
  | some k =>
    rw [ht] at e
    obtain rfl : (!k) = b := Option.some.inj e
    exact ⟨k, truth_ok R1 rv ht, hb⟩
theorem e_and {rest : List Expr} (ha : PE X x (tD W n Wx a)) (hb : PE X (.BoolOp .And (y :: rest) pos) (tD W n Wx b)) : PE X (.BoolOp .And (x :: y :: rest) pos) (tD W n Wx (.and a b)) := by
  refine (pe_andT ha hb).weak fun σ H Q q => ?_
  obtain ⟨μ, ρ, M, R, E, q⟩ := q
  refine tD_step (G := fun μ H d M' => Fin W.T μ H d M' Q) R E q mvE fun d M1 v μ1 H1 g R1 E1 rv p => ?_
  cases ht : truth M1 d with
  | none => rw [ht] at p; exact p.elim
  | some k =>
    rw [ht] at p
    refine ⟨k, truth_ok R1 rv ht, ?_⟩
    cases k with
    | true => exact iteT ⟨μ1, ρ, M1, R1, E1, p⟩
    | false => exact iteF (Fin.same p R1 rv)
theorem e_or {rest : List Expr} (ha : PE X x (tD W n Wx a)) (hb : PE X (.BoolOp .Or (y :: rest) pos) (tD W n Wx b)) : PE X (.BoolOp .Or (x :: y :: rest) pos) (tD W n Wx (.or a b)) := by
  refine (pe_orT ha hb).weak fun σ H Q q => ?_
  obtain ⟨μ, ρ, M, R, E, q⟩ := q
  refine tD_step (G := fun μ H d M' => Fin W.T μ H d M' Q) R E q mvE fun d M1 v μ1 H1 g R1 E1 rv p => ?_
  cases ht : truth M1 d with
  | none => rw [ht] at p; exact p.elim
  | some k =>
    rw [ht] at p
    refine ⟨k, truth_ok R1 rv ht, ?_⟩
    cases k with
    | true => exact iteT (Fin.same p R1 rv)
    | false => exact iteF ⟨μ1, ρ, M1, R1, E1, p⟩
theorem w_cmp {K : PySem.W.Frag} {op : CmpOp} {σ : L2.St} {H : Hp} {Q : VK} (q : tD W n Wx (.cmp op a b) σ H Q) : tOp (rCmp K op) (tD W n Wx a) (tD W n Wx b) σ H Q := by
  obtain ⟨μ, ρ, M, R, E, q⟩ := q
  refine tD_step (G := fun μ H d M' => Fin W.T μ H d M' Q) R E q mvE fun d M1 v μ1 H1 g R1 E1 rv p => ?_
  refine tD_step (G := fun μ H d M' => Fin W.T μ H d M' Q) R1 E1 p mvE fun d2 M2 v2 μ2 H2 g2 R2 E2 rv2 p2 => ?_
  obtain ⟨k, e, hb⟩ := post_ofB R2 p2
  exact cmp_ok R2 (RV.grow g2 _ _ rv) rv2 e hb
theorem e_cmp (C : Conf W n X c) {op : CmpOp} (ha : PE X l (tD W n Wx a)) (hb : PE X r (tD W n Wx b)) (hm : behindInMarks op r = false) : PE X (.Compare l [op] [r] pos) (tD W n Wx (.cmp op a b)) :=
  (pe_cmpR (op_cmp C.un op) ha hb hm).weak fun σ H Q q => w_cmp q
def D.isNon : D → Bool
  | .non => true
  | _ => false
theorem non_iff {μ : Mu} {H : Hp} {d : D} {v : V} (r : RV μ H d v) : decide (v = .non) = d.isNon := by
  cases d with
  | non => rw [show v = V.non from r]; rfl
  | bl _ => rw [show v = V.bl _ from r]; rfl
  | int _ => rw [show v = V.int _ from r]; rfl
  | str _ => rw [show v = V.str _ from r]; rfl
  | tup _ => obtain ⟨a, o, xs, rfl, _⟩ := r; rfl
  | lst _ => obtain ⟨a, xs, rfl, _⟩ := r; rfl
  | ref _ => obtain ⟨a, rfl, _⟩ := r; rfl
theorem w_isN {σ : L2.St} {H : Hp} {Q : VK} (q : tD W n Wx (.isN false a) σ H Q) : tIsN (tD W n Wx a) σ H Q := by
  obtain ⟨μ, ρ, M, R, E, q⟩ := q
  refine tD_step (G := fun μ H d M' => Fin W.T μ H d M' Q) R E q mvE fun d M1 v μ1 H1 g R1 E1 rv p => ?_
  rw [non_iff rv]
  refine Fin.same p R1 ?_
  cases d <;> rfl
theorem w_notN {σ : L2.St} {H : Hp} {Q : VK} (q : tD W n Wx (.isN true a) σ H Q) : tNotN (tD W n Wx a) σ H Q := by
  obtain ⟨μ, ρ, M, R, E, q⟩ := q
  refine tD_step (G := fun μ H d M' => Fin W.T μ H d M' Q) R E q mvE fun d M1 v μ1 H1 g R1 E1 rv p => ?_
  rw [non_iff rv]
  refine Fin.same p R1 ?_
  cases d <;> rfl
theorem e_isN {k : Nat} {m : Bool} (ha : PE X l (tD W n Wx a)) : PE X (.Compare l [if m then CmpOp.IsNot else CmpOp.Is] [.Constant .none k p] pos) (tD W n Wx (.isN m a)) := by
  cases m with
  | false => exact (pe_cmp (pc_isN ha) rfl).weak fun σ H Q q => w_isN q
  | true => exact (pe_cmp (pc_notN ha) rfl).weak fun σ H Q q => w_notN q
theorem w_chn {K : PySem.W.Frag} {op op' : CmpOp} {σ : L2.St} {H : Hp} {Q : VK} (q : tD W n Wx (.chn op op' a b d) σ H Q) : tChain (rCmp K op) (rCmp K op') (tD W n Wx a) (tD W n Wx b) (tD W n Wx d) σ H Q := by
  obtain ⟨μ, ρ, M, R, E, q⟩ := q
  refine tD_step (G := fun μ H d M' => Fin W.T μ H d M' Q) R E q mvE fun d1 M1 v μ1 H1 g R1 E1 rv p => ?_
  refine tD_step (G := fun μ H d M' => Fin W.T μ H d M' Q) R1 E1 p mvE fun d2 M2 v2 μ2 H2 g2 R2 E2 rv2 p2 => ?_
  cases e : cmpD op M2 d1 d2 with
  | none => rw [e] at p2; exact p2.elim
  | some k =>
    rw [e] at p2
    refine cmp_ok R2 (RV.grow g2 _ _ rv) rv2 e ⟨k, rfl, ?_⟩
    cases k with
    | false => exact iteF (Fin.same p2 R2 rfl)
    | true =>
      refine iteT ?_
      refine tD_step (G := fun μ H d M' => Fin W.T μ H d M' Q) R2 E2 p2 mvE fun d3 M3 v3 μ3 H3 g3 R3 E3 rv3 p3 => ?_
      obtain ⟨k, e, hb⟩ := post_ofB R3 p3
      exact cmp_ok R3 (RV.grow g3 _ _ rv2) rv3 e hb
theorem e_chn (C : Conf W n X c) {op op' : CmpOp} (ha : PE X x (tD W n Wx a)) (hb : PE X y (tD W n Wx b)) (hd : PE X z (tD W n Wx d)) (hm : behindInMarks op' z = false) : PE X (.Compare x [op, op'] [y, z] pos) (tD W n Wx (.chn op op' a b d)) :=
  (pe_chain (op_cmp C.un op) (op_cmp C.un op') ha hb hd hm).weak fun σ H Q q => w_chn q
theorem PlainIx.of {b : Expr} (h : sliceB b = false) : PlainIx b := fun o i => by
  cases b <;> first | rfl | (cases h; done)
theorem nx_idx {x y : D} {M : Mem} : ∀ c M', idx M x y ≠ .exc c M' := fun c M' h => by
  unfold idx at h
  repeat' (first | (cases h; done) | (unfold atD at h) | split at h)
theorem e_idx (C : Conf W n X c) (ha : PE X x (tD W n Wx a)) (hb : PE X y (tD W n Wx b)) (hs : sliceB y = false) : PE X (.Subscript x y pos) (tD W n Wx (.idx a b)) := by
  refine (pe_ix (ix_all (by have := C.un; omega)) ha hb (PlainIx.of hs)).weak fun σ H Q q => ?_
  obtain ⟨μ, ρ, M, R, E, q⟩ := q
  refine tD_step (G := fun μ H d M' => Fin W.T μ H d M' Q) R E q mvE fun d M1 v μ1 H1 g R1 E1 rv p => ?_
  refine tD_step (G := fun μ H d M' => Fin W.T μ H d M' Q) R1 E1 p mvE fun d2 M2 v2 μ2 H2 g2 R2 E2 rv2 p2 => ?_
  obtain ⟨d3, M3, e3, f3⟩ := post2 p2 nx_idx
  exact idx_ok R2 (RV.grow g2 _ _ rv) rv2 e3 f3
/-! ### slices -/
def tO (W : Wd) (n : Nat) (Wx : WX) (a : E) : TO := fun σ H Q => ∃ μ ρ M, Rep W.T μ H M ∧ REnv μ H σ ρ ∧ Post W Wx σ μ H (fun o M' => ∀ μ' H', Grow μ H μ' H' → Rep W.T μ' H' M' → Q o H') (if a.isNil then .ok none M else (W.ev n a ρ M).bind toInt)
theorem o_none (h : a.isNil = true) : PO X none (tO W n Wx a) := by
  refine ⟨fun pins s σ H Q I q => po_none.run pins s σ H Q I ?_⟩
  obtain ⟨μ, ρ, M, R, E, q⟩ := q
  rw [if_pos h] at q
  exact q μ H (Grow.refl _ _) R
theorem o_some (h : a.isNil = false) (ha : PE X x (tD W n Wx a)) : PO X (some x) (tO W n Wx a) := by
  refine ⟨fun pins s σ H Q I q => (po_some ha).run pins s σ H Q I ?_⟩
  obtain ⟨μ, ρ, M, R, E, q⟩ := q
  rw [h, if_neg (by decide)] at q
  refine tD_step (G := fun μ H o M' => ∀ μ' H', Grow μ H μ' H' → Rep W.T μ' H' M' → Q o H') R E q (fun _ _ g _ _ f μ2 H2 g2 => f μ2 H2 (g.trans g2)) fun d M1 v μ1 H1 g R1 E1 rv p => ?_
  cases d with
  | int i =>
    obtain rfl := rv
    exact ⟨i, rfl, p μ1 H1 (Grow.refl _ _) R1⟩
  | _ => exact p.elim
theorem e_slc {m : Bool} {lo hi : E} {l h : Option Expr} {p2 : Pos} (ha : PE X x (tD W n Wx a)) (hl : PO X l (tO W n Wx lo)) (hh : PO X h (tO W n Wx hi)) : PE X (.Subscript x (.Slice l h none p2) pos) (tD W n Wx (.slc m a lo hi)) := by
  refine (pe_slice (sl_tupZ.or sl_list) ha hl hh).weak fun σ H Q q => ?_
  obtain ⟨μ, ρ, M, R, E, q⟩ := q
  refine tD_step (G := fun μ H d M' => Fin W.T μ H d M' Q) R E q mvE fun d M1 v μ1 H1 g R1 E1 rv p => ?_
  refine ⟨μ1, ρ, M1, R1, E1, p.bind fun o1 M2 e2 p2 μ2 H2 g2 R2 => ?_⟩
  have E2 := E1.grow g2
  refine ⟨μ2, ρ, M2, R2, E2, (p2.move (G' := fun d M' => Fin W.T μ2 H2 d M' Q) g2 (mvE μ2 H2 g2)).bind fun o2 M3 e3 p3 μ3 H3 g3 R3 => ?_⟩
  have rv3 := RV.grow g3 _ _ (RV.grow g2 _ _ rv)
  have p4 := p3.move (G' := fun d M' => Fin W.T μ3 H3 d M' Q) g3 (mvE μ3 H3 g3)
  have lists : ∀ xs, deref M3 d = .lst xs → PostE W Wx σ μ3 H3 Q (newL m (cut xs o1 o2) M3) → rSlL X.K v o1 o2 H3 Q := fun xs hx p => by
    obtain ⟨a, vs, rfl, z1, q1, d1⟩ := deref_rd R3 rv3 hx
    exact ⟨a, vs, rfl, .inl d1, post_newL R3 (q1.cut o1 o2) (Nat.le_trans (cutV_length _ _ _) z1) p⟩
  cases d with
  | tup xs =>
    obtain ⟨a, o, vs, rfl, n1, h1, od1, z1, q1⟩ := id rv3
    have p5 : Fin W.T μ3 H3 (.tup (cut xs o1 o2)) M3 Q := p4
    refine .inl ⟨a, vs, rfl, .inl (.inr ⟨o, h1⟩), fun hw => ?_, fun hw p o hp ho => Fin.newT R3 (q1.cut o1 o2) (Nat.le_trans (cutV_length _ _ _) z1) p5 p o hp ho⟩
    have : cut xs o1 o2 = xs := by
      unfold cut
      rw [q1.length, hw.1, hw.2]
      simp [← q1.length]
    rw [this] at p5
    exact Fin.same p5 R3 rv3
  | _ =>
    refine .inr ?_
    cases hx : deref M3 _ with
    | lst xs => rw [hx] at p4; exact lists xs hx p4
    | _ => rw [hx] at p4; exact p4.elim
/-! ### arguments -/
theorem RVs.reverse {μ : Mu} {H : Hp} : ∀ {ds : List MP.D} {vs : List V}, RVs μ H ds vs → RVs μ H ds.reverse vs.reverse
  | [], _, h => by rw [show _ = [] from h]; rfl
  | d :: ds, _, ⟨x, r, e, h1, h2⟩ => by
    rw [e, List.reverse_cons, List.reverse_cons]
    exact (RVs.reverse h2).append (RVs.one h1)
theorem e_rev {p2 p3 p4 : Pos} {j : Nat} (ha : PE X x (tD W n Wx a)) : PE X (.Subscript x (.Slice none none (some (.UnaryOp .USub (.Constant (.int 1) j p3) p4)) p2) pos) (tD W n Wx (.rev a)) := by
  refine (pe_back ha).weak fun σ H Q q => ?_
  obtain ⟨μ, ρ, M, R, E, q⟩ := q
  refine tD_step (G := fun μ H d M' => Fin W.T μ H d M' Q) R E q mvE fun d M1 v μ1 H1 g R1 E1 rv p => ?_
  cases d with
  | tup ds =>
    obtain ⟨b, o, vs, rfl, n1, h1, od1, z1, q1⟩ := rv
    refine ⟨b, vs, rfl, .inl (.inr ⟨o, h1⟩), fun p' o' hp ho => ?_⟩
    exact Fin.newT R1 (RVs.reverse q1) (by rw [List.length_reverse]; exact z1) p p' o' hp ho
  | _ => exact p.elim
theorem star_of {y : Expr} {es : List Expr} (h : starB y = false) : starEach (y :: es) X.env = (false, PySem.eval y X.env) :: starEach es X.env := by
  cases y <;> first | rfl | (cases h; done)
theorem a_nil : PA X [] (tL W n Wx .nil) := by
  refine pa_nil.weak fun σ H Q q => ?_
  obtain ⟨μ, ρ, M, R, E, q⟩ := q
  exact (show FinL W μ H [] M Q from q) [] μ H (Grow.refl _ _) R rfl
theorem a_cons (hs : starB y = false) (ha : PE X y (tD W n Wx a)) (hr : PA X es (tL W n Wx as)) : PA X (y :: es) (tL W n Wx (.cons a as)) := by
  refine (pa_cons ha hr (star_of hs)).weak fun σ H Q q => ?_
  obtain ⟨μ, ρ, M, R, E, q⟩ := q
  refine tD_step (G := fun μ H d M' => FinL W μ H d M' Q) R E q mvL fun d M1 v μ1 H1 g R1 E1 rv p => ?_
  refine tL_step (G := fun μ H d M' => FinL W μ H d M' Q) R1 E1 p mvL fun d2 M2 v2 μ2 H2 g2 R2 E2 rv2 p2 => ?_
  exact (show FinL W μ2 H2 (d :: d2) M2 Q from p2) _ μ2 H2 (Grow.refl _ _) R2 ⟨v, v2, rfl, RV.grow g2 _ _ rv, rv2⟩
end
end MP

/-! Mp2g: calls, built-in functions and methods, tests. -/
namespace MP
open PySem PySem.Spec PyProof.Rows L2
section
variable {W : Wd} {n : Nat} {Wx : WX} {X : Cx} {c : Cs} {e l r x y z o : Expr} {es : List Expr} {a b d as : E} {pos p : Pos}
theorem noStar_any {es : List Expr} (h : es.all (fun e => !starB e) = true) : (backTo pos (starEach es X.env)).any (·.1) = false := by
  induction es with
  | nil => rfl
  | cons e es ih =>
    simp only [List.all_cons, Bool.and_eq_true, Bool.not_eq_true'] at h
    rw [star_of h.1]
    show (false || (backTo pos (starEach es X.env)).any (·.1)) = false
    rw [ih h.2]
    rfl
theorem noStar_all {es : List Expr} (h : es.all (fun e => !starB e) = true) : (backTo pos (starEach es X.env)).all (fun x => !x.1) = true := by
  induction es with
  | nil => rfl
  | cons e es ih =>
    simp only [List.all_cons, Bool.and_eq_true, Bool.not_eq_true'] at h
    rw [star_of h.1]
    show (true && (backTo pos (starEach es X.env)).all (fun x => !x.1)) = true
    rw [ih h.2]
    rfl
theorem mEs_stars {T : Tab} : ∀ {as : E} {c : Cs} {es : List Expr}, mEs T as c es = true → es.all (fun e => !starB e) = true := by
  intro as
  induction as with
  | nil =>
    intro c es h
    simp only [mEs] at h
    cases es with
    | nil => rfl
    | cons e es => cases h
  | cons a as _ ih =>
    intro c es h
    cases es with
    | nil => simp only [mEs] at h; cases h
    | cons e es =>
      simp only [mEs, Bool.and_eq_true] at h
      simp only [List.all_cons, Bool.and_eq_true]
      exact ⟨h.1.1, ih h.2⟩
  | _ => intro c es h; simp only [mEs] at h; cases h
theorem callF_some {f : Nat} {ds : List D} {M : Mem} (h : callF W.P n f ds M ≠ .stuck) : ∃ fn, W.P.funs[f]? = some fn ∧ ds.length = fn.np := by
  cases n with
  | zero => exact absurd rfl h
  | succ n =>
    simp only [callF] at h
    cases q : W.P.funs[f]? with
    | none => rw [q] at h; exact absurd rfl h
    | some fn =>
      rw [q] at h
      by_cases hl : ds.length = fn.np
      · exact ⟨fn, rfl, hl⟩
      · simp only [if_neg hl] at h; exact absurd rfl h
theorem spF_of {f : Nat} {ds : List D} {vs : List V} {M : Mem} {μ : Mu} {H : Hp} {σ : L2.St} {Q : VK} (R : Rep W.T μ H M) (rv : RVs μ H ds vs) (p : PostE W Wx σ μ H Q (callF W.P n f ds M)) : spF W n f vs H Q (WE Wx σ) := by
  have hns : callF W.P n f ds M ≠ .stuck := fun e => by rw [e] at p; exact p
  obtain ⟨fn, h1, h2⟩ := callF_some hns
  refine ⟨fn, μ, M, ds, h1, h2, R, rv, ?_⟩
  cases q : callF W.P n f ds M with
  | ok d M' => rw [q] at p; exact p
  | exc c M' => rw [q] at p; exact p
  | stuck => exact absurd q hns
theorem e_call (O : W.Ok n) (C : Conf W n X c) (tk : Takes X Wx) (hc : c.calm = true) {f : Nat} {x : Str} (hf : W.tb.fns[f]? = some (x, none)) (hg : glB c.sc x = true) (hs : (y :: es).all (fun e => !starB e) = true) (ha : PA X (y :: es) (tL W n Wx as)) :
    PE X (.Call (.Name x p) (y :: es) [] pos) (tD W n Wx (.call f as)) := by
  obtain ⟨fa, fd, ps, h1, h2, h3, h4⟩ := O.fn f x hf
  obtain ⟨g1, g2, g3⟩ := glB_ok C hg
  have hs' := hs
  simp only [List.all_cons, Bool.and_eq_true, Bool.not_eq_true'] at hs'
  have F : FnOk X.prog X.w X.K X.mg X.base (L2.CX X.prog X.w) (2 * n) fa fd ps (spF W n f) := by rw [C.pr, C.w, C.K, C.mg, C.base]; exact h4
  refine (pe_callS F ((C.room hc).mono (by omega)) g1 (by rw [C.mg]; exact h1) (by rw [C.K]; exact h2) (by rw [C.K]; exact h3) (fun σ => passAt tk σ) ha g2 (star_of hs'.1) (noStar_any hs'.2)).weak fun σ H Q q => ?_
  obtain ⟨μ, ρ, M, R, E, q⟩ := q
  refine tL_step (G := fun μ H d M' => Fin W.T μ H d M' Q) R E q mvE fun ds M1 vs μ1 H1 g R1 E1 rv p => ?_
  exact spF_of R1 rv p
/-! ### built-in functions -/
theorem boot_fun (f : B) {id : String} (h : bFun f = some id) : bootBuiltins (bName f) = some (.builtin id) := by
  cases f <;> simp only [bFun, Option.some.injEq, reduceCtorEq] at h <;> subst h <;> (simp only [bName]; decide +kernel)
theorem boot_ty (f : B) {id : String} (h : bTy f = some id) : bootBuiltins (bName f) = some (.type id) := by
  cases f <;> simp only [bTy, Option.some.injEq, reduceCtorEq] at h <;> subst h <;> (simp only [bName]; decide +kernel)
theorem nx_blt {f : B} {ds : List D} {M : Mem} : ∀ c M', bltF f ds M ≠ .exc c M' := fun c M' h => by
  unfold bltF at h
  repeat' (first | (cases h; done) | exact nx_newL _ _ h | split at h)
theorem bName_in (f : B) : bName f ∈ bltNames := by
  cases f <;> (simp only [bName]; decide +kernel)
theorem e_blt (O : W.Ok n) (C : Conf W n X c) (hc : c.calm = true) {f : B} (hf : ∀ m, f ≠ .listrng m) (hg : glB c.sc (bName f) = true) (hs : (y :: es).all (fun e => !starB e) = true) (ha : PA X (y :: es) (tL W n Wx as)) :
    PE X (.Call (.Name (bName f) p) (y :: es) [] pos) (tD W n Wx (.blt f as)) := by
  obtain ⟨g1, g2, g3⟩ := glB_ok C hg
  have hs' := hs
  simp only [List.all_cons, Bool.and_eq_true, Bool.not_eq_true'] at hs'
  have hm : X.mg (bName f) = none := by rw [C.mg]; exact O.blt _ (bName_in f)
  have hcx : X.calm = true := by rw [C.calm]; exact hc
  have key : PE X (.Call (.Name (bName f) p) (y :: es) [] pos) (tCB (rB X.K f) (tL W n Wx as)) := by
    cases e1 : bFun f with
    | some id => exact pe_callB (cr_fun hcx f e1) g1 hm (boot_fun f e1) ha g3 g2 (star_of hs'.1) (noStar_any hs'.2)
    | none =>
      cases e2 : bTy f with
      | some id => exact pe_callTy (cr_ty hcx f e2) g1 hm (boot_ty f e2) ha g3 g2 (star_of hs'.1) (noStar_any hs'.2)
      | none => cases f <;> first | (cases e1; done) | (cases e2; done) | exact absurd rfl (hf _)
  refine key.weak fun σ H Q q => ?_
  obtain ⟨μ, ρ, M, R, E, q⟩ := q
  refine tL_step (G := fun μ H d M' => Fin W.T μ H d M' Q) R E q mvE fun ds M1 vs μ1 H1 g R1 E1 rv p => ?_
  obtain ⟨d3, M3, e3, f3⟩ := post2 p nx_blt
  exact bltF_ok R1 hf rv e3 f3
theorem rng_rv {μ : Mu} {H : Hp} (a b : Int) : RVs μ H (rng a b) (rgV a b) := by
  unfold rng rgV
  have : ∀ l : List Nat, RVs μ H (l.map fun i => D.int (a + (i : Nat))) (l.map fun i => V.int (a + (i : Nat))) := fun l => by
    induction l with
    | nil => rfl
    | cons i l ih => exact ⟨_, _, rfl, rfl, ih⟩
  exact this _
theorem e_listrng (O : W.Ok n) (C : Conf W n X c) (hc : c.calm = true) {m : Bool} (hg : glB c.sc "list" = true) (hg2 : glB c.sc "range" = true) (hs : starB y = false) {p2 p3 : Pos} (ha : PA X [y] (tL W n Wx as)) (hp : ∃ a, as = .cons a .nil ∧ PE X y (tD W n Wx a)) :
    PE X (.Call (.Name "list" p) [.Call (.Name "range" p2) [y] [] p3] [] pos) (tD W n Wx (.blt (.listrng m) as)) := by
  obtain ⟨a, rfl, ha'⟩ := hp
  obtain ⟨g1, g2, g3⟩ := glB_ok C hg
  obtain ⟨k1, k2, k3⟩ := glB_ok C hg2
  have hm : X.mg "list" = none := by rw [C.mg]; exact O.blt _ (by decide +kernel)
  have hm2 : X.mg "range" = none := by rw [C.mg]; exact O.blt _ (by decide +kernel)
  have hcx : X.calm = true := by rw [C.calm]; exact hc
  refine (pe_listRg hcx g1 hm (prg_1 (pos := p3) k1 hm2 ha' (star_of hs))).weak fun σ H Q q => ?_
  obtain ⟨μ, ρ, M, R, E, q⟩ := q
  have q' : Post W Wx σ μ H (fun d M' => Fin W.T μ H d M' Q) ((W.ev n a ρ M).bind fun d M => bltF (.listrng m) [d] M) := by
    have e : W.ev n (.blt (.listrng m) (.cons a .nil)) ρ M = (W.ev n a ρ M).bind fun d M => bltF (.listrng m) [d] M := by
      simp only [Wd.ev, eval, evalL]
      cases eval W.P.gl (callF W.P n) a ρ M <;> rfl
    rw [← e]
    exact q
  refine tD_step (G := fun μ H d M' => Fin W.T μ H d M' Q) R E q' mvE fun d M1 v μ1 H1 g R1 E1 rv p => ?_
  cases d with
  | int i =>
    obtain rfl := rv
    simp only [bltF] at p
    split at p
    · rename_i hz
      have hb : big = 16777216 := rfl
      refine ⟨i, rfl, RgOk.of_le (by omega) (by omega) (by omega) hz.1, ?_⟩
      refine post_newL R1 (rng_rv 0 i) ?_ p
      rw [rgV_length, ← big_eq]
      omega
    · exact p.elim
  | _ => exact p.elim
/-! ### isinstance -/
theorem kit_all (t : Ty) (s : String) (b : Bool) (h : kitB s (tyName t) = some b) {K : PySem.W.Frag} : PySem.W.kitOne K (.type s) (.type (tyName t)) = some b := kit_ty h
theorem isTy_ok {K : PySem.W.Frag} {μ : Mu} {H : Hp} {M : Mem} (R : Rep W.T μ H M) {t : Ty} {d : D} {v : V} {b : Bool} (rv : RV μ H d v) (e : isTy M t d = some b) : ∃ u, TyX K H v u ∧ PySem.W.kitOne K u (.type (tyName t)) = some b := by
  have lst : ∀ a vs, v = .ref a → Rd H a (.lst vs) → (t == Ty.list) = b → ∃ u, TyX K H v u ∧ PySem.W.kitOne K u (.type (tyName t)) = some b := fun a vs hv h hb => by
    subst hv hb
    refine ⟨.type "list", ?_, ?_⟩
    · rcases h with h | ⟨o, h⟩
      · exact .base (.lst h)
      · exact .base (.frz h)
    · cases t <;> exact kit_ty (by decide +kernel)
  cases d with
  | non =>
    obtain rfl := rv
    obtain rfl := Option.some.inj e
    exact ⟨_, .base .non, by cases t <;> exact kit_ty (by decide +kernel)⟩
  | bl k =>
    obtain rfl := rv
    obtain rfl := Option.some.inj e
    exact ⟨_, .base (.bl k), by cases t <;> exact kit_ty (by decide +kernel)⟩
  | int k =>
    obtain rfl := rv
    obtain rfl := Option.some.inj e
    exact ⟨_, .base (.int k), by cases t <;> exact kit_ty (by decide +kernel)⟩
  | str k =>
    obtain rfl := rv
    obtain rfl := Option.some.inj e
    exact ⟨_, .base (.str k), by cases t <;> exact kit_ty (by decide +kernel)⟩
  | tup xs =>
    obtain ⟨a, o, vs, rfl, n1, h1, od1, z1, q1⟩ := rv
    obtain rfl := Option.some.inj e
    exact ⟨_, .fTuple h1, by cases t <;> exact kit_ty (by decide +kernel)⟩
  | lst xs =>
    obtain ⟨a, vs, rfl, n1, h1, z1, q1⟩ := rv
    exact lst a vs rfl h1 (Option.some.inj e)
  | ref m =>
    obtain ⟨a, rfl, ha⟩ := rv
    simp only [isTy] at e
    cases q : M[m]? with
    | none => rw [q] at e; cases e
    | some ob =>
      rw [q] at e
      cases ob with
      | lst xs =>
        obtain ⟨vs, h, z, r⟩ := R.obj m a _ ha q
        exact lst a vs rfl (.inl h) (Option.some.inj e)
      | _ => cases e
theorem boot_tyName (t : Ty) : bootBuiltins (Str.ofString (tyName t)) = some (.type (tyName t)) := by cases t <;> (simp only [tyName]; decide +kernel)
theorem tyName_in (t : Ty) : Str.ofString (tyName t) ∈ bltNames := by cases t <;> (simp only [tyName]; decide +kernel)
theorem e_isi (O : W.Ok n) (C : Conf W n X c) {t : Ty} {p2 : Pos} (hg : glB c.sc "isinstance" = true) (hg2 : glB c.sc (Str.ofString (tyName t)) = true) (hs : starB y = false) (ha : PE X y (tD W n Wx a)) :
    PE X (.Call (.Name "isinstance" p) [y, .Name (Str.ofString (tyName t)) p2] [] pos) (tD W n Wx (.isi a t)) := by
  obtain ⟨g1, g2, g3⟩ := glB_ok C hg
  obtain ⟨k1, k2, k3⟩ := glB_ok C hg2
  have hm : X.mg "isinstance" = none := by rw [C.mg]; exact O.blt _ (by decide +kernel)
  have hm2 : X.mg (Str.ofString (tyName t)) = none := by rw [C.mg]; exact O.blt _ (tyName_in t)
  have hb : PE X (.Name (Str.ofString (tyName t)) p2) (tC (.ty (tyName t))) := pe_bltn k1 hm2 (boot_tyName t) rfl k3 k2
  refine (pe_callB call_isi g1 hm boot_isinstance (pa_cons ha (pa_cons hb pa_nil) (star_of hs)) g3 g2 (star_of hs) rfl).weak fun σ H Q q => ?_
  obtain ⟨μ, ρ, M, R, E, q⟩ := q
  refine tD_step (G := fun μ H d M' => Fin W.T μ H d M' Q) R E q mvE fun d M1 v μ1 H1 g R1 E1 rv p => ?_
  obtain ⟨k, e, hq⟩ := post_ofB R1 p
  obtain ⟨u, h1, h2⟩ := isTy_ok (K := X.K) R1 rv e
  exact ⟨v, .ty (tyName t), u, .type (tyName t), k, rfl, .ty _, h1, h2, hq⟩
end
end MP

/-! Mp2h: built-in methods, tests, targets. -/
namespace MP
open PySem PySem.Spec PyProof.Rows L2
section
variable {W : Wd} {n : Nat} {Wx : WX} {X : Cx} {c : Cs} {e l r x y z o : Expr} {es : List Expr} {a b d as : E} {pos p apos cpos : Pos}
theorem base_of {f : Str} (h : call0B o = false) : attributeBase o f X.env (PySem.eval o X.env) = PySem.eval o X.env := by
  cases o with
  | Call g args kws q =>
    cases g with
    | Name x q2 =>
      cases args with
      | nil =>
        cases kws with
        | nil => cases h
        | cons _ _ => rfl
      | cons _ _ => rfl
    | _ => rfl
  | _ => rfl
theorem few_of (h : (y :: es).all (fun e => !starB e) = true) (hl : es.length < 20) : ((backTo cpos (starEach (y :: es) X.env)).all (fun x => !x.1) && (backToKw cpos (keywordEach [] X.env)).all (fun x => x.1.isSome)
      && decide ((y :: es).length + ([] : List Keyword).length + (if ([] : List Keyword).isEmpty then 0 else 1) < 30)) = true := by
  rw [noStar_all h]
  simp only [List.length_cons, List.length_nil, List.isEmpty_nil, if_true, Nat.add_zero, Bool.true_and]
  have : decide (es.length + 1 < 30) = true := decide_eq_true (by omega)
  rw [this]
  rfl
theorem write_lst {T : Ad} {μ : Mu} {H : Hp} {M : Mem} {m : Nat} {a : Addr} {xs : List D} {vs : List V} (R : Rep T μ H M) (ha : μ.l[m]? = some a) (rv : RVs μ H xs vs) (hz : vs.length ≤ sizeLine) :
    Rep T μ (upd H a (.lst vs)) (M.set m (.lst xs)) ∧ Grow μ H μ (upd H a (.lst vs)) := by
  have g : Grow μ H μ (upd H a (.lst vs)) := by
    have hm : a ∈ μ.l := List.mem_of_getElem? ha
    refine ⟨⟨[], by simp⟩, rfl, fun q hq hn => absurd hq hn, fun b w h n => ?_⟩
    have hb : b ≠ a := fun e => n (by rw [e]; exact hm)
    rw [upd_ne hb]; exact h
  exact R.write ha ⟨vs, upd_same, hz, RVs.grow g _ _ rv⟩
theorem write_dK {T : Ad} {μ : Mu} {H : Hp} {M : Mem} {m : Nat} {a : Addr} {xs : List (Key × D)} {vs : List (Key × V)} (R : Rep T μ H M) (ha : μ.l[m]? = some a) (rv : RK μ H xs vs) (hz : vs.length ≤ sizeLine) :
    Rep T μ (upd H a (.dK vs)) (M.set m (.dK xs)) ∧ Grow μ H μ (upd H a (.dK vs)) := by
  have g : Grow μ H μ (upd H a (.dK vs)) := by
    have hm : a ∈ μ.l := List.mem_of_getElem? ha
    refine ⟨⟨[], by simp⟩, rfl, fun q hq hn => absurd hq hn, fun b w h n => ?_⟩
    have hb : b ≠ a := fun e => n (by rw [e]; exact hm)
    rw [upd_ne hb]; exact h
  exact R.write ha ⟨vs, upd_same, hz, RK.grow g _ _ rv⟩
theorem bmOk_lst {f : BM} {M : Mem} {x : D} (hf : f = .append ∨ f = .extend ∨ f = .lpop) (h : bmOk f M x = true) : ∃ m xs, x = .ref m ∧ M[m]? = some (.lst xs) := by
  cases x with
  | ref m =>
    simp only [bmOk] at h
    cases q : M[m]? with
    | none => rw [q] at h; cases h
    | some ob =>
      rw [q] at h
      cases ob with
      | lst xs => exact ⟨m, xs, rfl, q⟩
      | dK kvs => rcases hf with rfl | rfl | rfl <;> cases h
      | _ => cases h
  | _ => cases h
theorem bmOk_dK {f : BM} {M : Mem} {x : D} (hf : f = .dpop ∨ f = .dget) (h : bmOk f M x = true) : ∃ m xs, x = .ref m ∧ M[m]? = some (.dK xs) := by
  cases x with
  | ref m =>
    simp only [bmOk] at h
    cases q : M[m]? with
    | none => rw [q] at h; cases h
    | some ob =>
      rw [q] at h
      cases ob with
      | lst xs => rcases hf with rfl | rfl <;> cases h
      | dK kvs => exact ⟨m, kvs, rfl, q⟩
      | _ => cases h
  | _ => cases h
/-- the reading of a list's method -/
theorem bm_lists {f : BM} {rr : V → List V → Hp → VK → Prop} (hf : f = .append ∨ f = .extend ∨ f = .lpop)
    (hr : ∀ (μ : Mu) (H : Hp) (M : Mem) (Q : VK) (x : D) (ds : List D) (v : V) (vs : List V) (d : D) (M' : Mem), Rep W.T μ H M → RV μ H x v → RVs μ H ds vs → bmF f x ds M = .ok d M' → Fin W.T μ H d M' Q → rr v vs H Q)
    (nx : ∀ (x : D) (ds : List D) (M : Mem) c M', bmF f x ds M ≠ .exc c M') {σ : L2.St} {H : Hp} {Q : VK} (q : tD W n Wx (.bm f a as) σ H Q) : tBM X.K "list" rr (tD W n Wx a) (tL W n Wx as) σ H Q := by
  obtain ⟨μ, ρ, M, R, E, q⟩ := q
  refine tD_step (G := fun μ H d M' => Fin W.T μ H d M' Q) R E q mvE fun d M1 v μ1 H1 g R1 E1 rv p => ?_
  split at p
  · rename_i hk
    obtain ⟨m, xs, rfl, hm⟩ := bmOk_lst hf hk
    obtain ⟨ad, rfl, had⟩ := id rv
    obtain ⟨vs, h, z, r⟩ := R1.obj m ad _ had hm
    refine ⟨.inl ⟨rfl, vs, .inl (.inl h)⟩, ?_⟩
    refine tL_step (G := fun μ H d M' => Fin W.T μ H d M' Q) R1 E1 p mvE fun ds M2 ws μ2 H2 g2 R2 E2 rw2 p2 => ?_
    obtain ⟨d3, M3, e3, f3⟩ := post2 p2 (nx _ _ _)
    exact hr μ2 H2 M2 Q _ ds _ ws d3 M3 R2 (RV.grow g2 _ _ rv) rw2 e3 f3
  · exact p.elim
theorem nx_bm {f : BM} : ∀ (x : D) (ds : List D) (M : Mem) c M', bmF f x ds M ≠ .exc c M' := fun x ds M c M' h => by
  unfold bmF at h
  repeat' (first | (cases h; done) | split at h)
theorem bm_append {μ : Mu} {H : Hp} {M : Mem} {Q : VK} {x : D} {ds : List D} {v : V} {vs : List V} {d : D} {M' : Mem} (R : Rep W.T μ H M) (rv : RV μ H x v) (rs : RVs μ H ds vs) (e : bmF .append x ds M = .ok d M') (f : Fin W.T μ H d M' Q) : rAppend v vs H Q := by
  cases x with
  | ref m =>
    cases ds with
    | nil => cases e
    | cons d1 ds =>
      cases ds with
      | nil =>
        simp only [bmF] at e
        cases q : M[m]? with
        | none => rw [q] at e; cases e
        | some ob =>
          rw [q] at e
          cases ob with
          | lst xs =>
            simp only at e
            split at e
            · rename_i hz
              injection e with e1 e2
              subst e1 e2
              obtain ⟨a, rfl, ha⟩ := rv
              obtain ⟨ws, h, z, r⟩ := R.obj m a _ ha q
              obtain ⟨v1, r1, rfl, h1, h2⟩ := rs
              obtain rfl : r1 = [] := h2
              have hl : ws.length < sizeLine := by rw [← r.length, ← big_eq]; exact hz
              obtain ⟨R', g⟩ := write_lst R ha (r.append (RVs.one h1)) (by rw [List.length_append]; simp; omega)
              exact ⟨a, ws, v1, rfl, rfl, h, hl, f _ _ _ g R' rfl⟩
            · cases e
          | _ => cases e
      | cons _ _ => cases e
  | _ => cases e
theorem bm_extend {μ : Mu} {H : Hp} {M : Mem} {Q : VK} {x : D} {ds : List D} {v : V} {vs : List V} {d : D} {M' : Mem} (R : Rep W.T μ H M) (rv : RV μ H x v) (rs : RVs μ H ds vs) (e : bmF .extend x ds M = .ok d M') (f : Fin W.T μ H d M' Q) : rExtendR v vs H Q := by
  cases x with
  | ref m =>
    cases ds with
    | nil => cases e
    | cons d1 ds =>
      cases ds with
      | nil =>
        simp only [bmF] at e
        cases q : M[m]? with
        | none => rw [q] at e; cases e
        | some ob =>
          rw [q] at e
          cases ob with
          | lst xs =>
            cases hd : deref M d1 with
            | lst ys =>
              rw [hd] at e
              simp only at e
              split at e
              · rename_i hz
                injection e with e1 e2
                subst e1 e2
                obtain ⟨a, rfl, ha⟩ := rv
                obtain ⟨ws, h, z, r⟩ := R.obj m a _ ha q
                obtain ⟨v1, r1, rfl, h1, h2⟩ := rs
                obtain rfl : r1 = [] := h2
                obtain ⟨b, us, rfl, z1, q1, d1⟩ := deref_rd R h1 hd
                have hl : ws.length + us.length ≤ sizeLine := by rw [← r.length, ← q1.length, ← big_eq]; exact hz
                obtain ⟨R', g⟩ := write_lst R ha (r.append q1) (by rw [List.length_append]; exact hl)
                exact ⟨a, b, ws, us, rfl, rfl, h, d1, hl, f _ _ _ g R' rfl⟩
              · cases e
            | _ => rw [hd] at e; cases e
          | _ => cases e
      | cons _ _ => cases e
  | _ => cases e
theorem bm_lpop {μ : Mu} {H : Hp} {M : Mem} {Q : VK} {x : D} {ds : List D} {v : V} {vs : List V} {d : D} {M' : Mem} (R : Rep W.T μ H M) (rv : RV μ H x v) (rs : RVs μ H ds vs) (e : bmF .lpop x ds M = .ok d M') (f : Fin W.T μ H d M' Q) : rPopAt v vs H Q := by
  cases x with
  | ref m =>
    cases ds with
    | nil => cases e
    | cons d1 ds =>
      cases ds with
      | nil =>
        cases d1 with
        | int i =>
          simp only [bmF] at e
          cases q : M[m]? with
          | none => rw [q] at e; cases e
          | some ob =>
            rw [q] at e
            cases ob with
            | lst xs =>
              simp only at e
              cases hi : ixN xs.length i with
              | none => rw [hi] at e; cases e
              | some j =>
                rw [hi] at e
                simp only at e
                cases hx : xs[j]? with
                | none => rw [hx] at e; cases e
                | some d2 =>
                  rw [hx] at e
                  injection e with e1 e2
                  subst e1 e2
                  obtain ⟨a, rfl, ha⟩ := rv
                  obtain ⟨ws, h, z, r⟩ := R.obj m a _ ha q
                  obtain ⟨v1, r1, rfl, h1, h2⟩ := rs
                  obtain rfl : r1 = [] := h2
                  obtain rfl := h1
                  obtain ⟨w, hw, rw2⟩ := r.get hx
                  have hs := ixN_seq hi
                  rw [r.length] at hs
                  have hln := line63
                  obtain ⟨R', g⟩ := write_lst R ha (r.eraseIdx j) (Nat.le_trans (len_erase _ _) z)
                  exact ⟨a, ws, i, j, w, rfl, rfl, h, by omega, by omega, hs.1, hw, f _ _ _ g R' (RV.grow g _ _ rw2)⟩
            | _ => cases e
        | _ => cases e
      | cons _ _ => cases d1 <;> cases e
  | _ => cases e
theorem e_bmL (C : Conf W n X c) {f : BM} (hf : f = .append ∨ f = .extend ∨ f = .lpop) (h0 : call0B o = false) (hln : (apos.endLine == cpos.line) = true) (hlen : es.length < 20) (hs : (y :: es).all (fun e => !starB e) = true)
    (ho : PE X o (tD W n Wx a)) (ha : PA X (y :: es) (tL W n Wx as)) : PE X (.Call (.Attribute o (bmName f) apos) (y :: es) [] cpos) (tD W n Wx (.bm f a as)) := by
  have hs' := hs
  simp only [List.all_cons, Bool.and_eq_true, Bool.not_eq_true'] at hs'
  rcases hf with rfl | rfl | rfl
  · exact (pe_bm PySem.F.plainAttrs_list PySem.F.slot_list_append PySem.F.type_list_append mt_append ho ha (base_of h0) (few_of hs hlen) hln (star_of hs'.1) (noStar_any hs'.2)).weak fun σ H Q q =>
      bm_lists (.inl rfl) (fun μ H M Q x ds v vs d M' R rv rs e f => bm_append R rv rs e f) nx_bm q
  · exact (pe_bm PySem.F.plainAttrs_list PySem.F.slot_list_extend PySem.F.type_list_extend mt_extendR ho ha (base_of h0) (few_of hs hlen) hln (star_of hs'.1) (noStar_any hs'.2)).weak fun σ H Q q =>
      bm_lists (.inr (.inl rfl)) (fun μ H M Q x ds v vs d M' R rv rs e f => bm_extend R rv rs e f) nx_bm q
  · exact (pe_bm PySem.F.plainAttrs_list PySem.F.slot_list_pop PySem.F.type_list_pop mt_popAt ho ha (base_of h0) (few_of hs hlen) hln (star_of hs'.1) (noStar_any hs'.2)).weak fun σ H Q q =>
      bm_lists (.inr (.inr rfl)) (fun μ H M Q x ds v vs d M' R rv rs e f => bm_lpop R rv rs e f) nx_bm q
theorem e_dpop (h0 : call0B o = false) (hln : (apos.endLine == cpos.line) = true) (hs : starB y = false) (ho : PE X o (tD W n Wx a)) (hy : PE X y (tD W n Wx b)) :
    PE X (.Call (.Attribute o (bmName .dpop) apos) [y] [] cpos) (tD W n Wx (.bm .dpop a (.cons b .nil))) := by
  have m : M1 X o "pop" apos y cpos := ⟨base_of h0, few_of (es := []) (by simp [hs]) (by decide), hln, by rw [star_of hs]; rfl⟩
  refine (pe_dpop1 ho hy m).weak fun σ H Q q => ?_
  obtain ⟨μ, ρ, M, R, E, q⟩ := q
  refine tD_step (G := fun μ H d M' => Fin W.T μ H d M' Q) R E q mvE fun d M1 v μ1 H1 g R1 E1 rv p => ?_
  split at p
  · rename_i hk
    obtain ⟨m, xs, rfl, hm⟩ := bmOk_dK (.inl rfl) hk
    obtain ⟨ad, rfl, had⟩ := id rv
    obtain ⟨vs, h, z, r⟩ := R1.obj m ad _ had hm
    refine ⟨ad, rfl, .inl ⟨vs, .inl h⟩, ?_⟩
    have p' : Post W Wx σ μ1 H1 (fun d M' => Fin W.T μ1 H1 d M' Q) ((W.ev n b ρ M1).bind fun k M => bmF .dpop (.ref m) [k] M) := by
      have e : ((evalL W.P.gl (callF W.P n) (.cons b .nil) ρ M1).bind fun ds M => bmF .dpop (.ref m) ds M) = (W.ev n b ρ M1).bind fun k M => bmF .dpop (.ref m) [k] M := by
        simp only [Wd.ev, evalL]
        cases eval W.P.gl (callF W.P n) b ρ M1 <;> rfl
      rw [← e]
      exact p
    refine tD_step (G := fun μ H d M' => Fin W.T μ H d M' Q) R1 E1 p' mvE fun k M2 u μ2 H2 g2 R2 E2 ru p2 => ?_
    obtain ⟨d3, M3, e3, f3⟩ := post2 p2 (nx_bm _ _ _)
    simp only [bmF] at e3
    cases q2 : M2[m]? with
    | none => rw [q2] at e3; cases e3
    | some ob =>
      rw [q2] at e3
      cases ob with
      | dK kvs =>
        simp only at e3
        cases hk : keyOf k with
        | none => rw [hk] at e3; cases e3
        | some key =>
          rw [hk] at e3
          simp only at e3
          cases hd : dGet kvs key with
          | none => rw [hd] at e3; cases e3
          | some d4 =>
            rw [hd] at e3
            injection e3 with e4 e5
            subst e4 e5
            obtain ⟨ws, h2, z2, r2⟩ := R2.obj m ad _ (g2.get had) q2
            obtain ⟨w, hw, rw2⟩ := (r2.get key).1 d4 hd
            obtain ⟨R', g'⟩ := write_dK R2 (g2.get had) (r2.drop key) (Nat.le_trans (dropK_le _ _) z2)
            exact ⟨ws, key, w, h2, key_rv ru hk, hw, f3 _ _ _ g' R' (RV.grow g' _ _ rw2)⟩
      | _ => cases e3
  · exact p.elim
theorem e_dget (C : Conf W n X c) (h0 : call0B o = false) (hln : (apos.endLine == cpos.line) = true) (hs : starB y = false) (hs2 : starB z = false) (ho : PE X o (tD W n Wx a)) (hy : PE X y (tD W n Wx b)) (hz : PE X z (tD W n Wx d)) :
    PE X (.Call (.Attribute o (bmName .dget) apos) [y, z] [] cpos) (tD W n Wx (.bm .dget a (.cons b (.cons d .nil)))) := by
  have m : M2 X o "get" apos y z cpos := ⟨base_of h0, few_of (es := [z]) (by simp [hs, hs2]) (by show 1 < 20; decide), hln, by rw [star_of hs, star_of hs2]; rfl⟩
  refine (pe_dget2 (by have := C.un; omega) ho hy hz m).weak fun σ H Q q => ?_
  obtain ⟨μ, ρ, M, R, E, q⟩ := q
  refine tD_step (G := fun μ H d M' => Fin W.T μ H d M' Q) R E q mvE fun d1 M1 v μ1 H1 g R1 E1 rv p => ?_
  split at p
  · rename_i hk
    obtain ⟨m, xs, rfl, hm⟩ := bmOk_dK (.inr rfl) hk
    obtain ⟨ad, rfl, had⟩ := id rv
    obtain ⟨vs, h, zz, r⟩ := R1.obj m ad _ had hm
    refine ⟨ad, rfl, .inl ⟨vs, .inl h⟩, ?_⟩
    have p' : Post W Wx σ μ1 H1 (fun d M' => Fin W.T μ1 H1 d M' Q) ((W.ev n b ρ M1).bind fun k M => (W.ev n d ρ M).bind fun w M => bmF .dget (.ref m) [k, w] M) := by
      have e : ((evalL W.P.gl (callF W.P n) (.cons b (.cons d .nil)) ρ M1).bind fun ds M => bmF .dget (.ref m) ds M) = (W.ev n b ρ M1).bind fun k M => (W.ev n d ρ M).bind fun w M => bmF .dget (.ref m) [k, w] M := by
        simp only [Wd.ev, evalL]
        cases eval W.P.gl (callF W.P n) b ρ M1 with
        | ok k M2 =>
          simp only [MP.R.bind_ok]
          cases eval W.P.gl (callF W.P n) d ρ M2 <;> rfl
        | _ => rfl
      rw [← e]
      exact p
    refine tD_step (G := fun μ H d M' => Fin W.T μ H d M' Q) R1 E1 p' mvE fun k M2 u μ2 H2 g2 R2 E2 ru p2 => ?_
    refine tD_step (G := fun μ H d M' => Fin W.T μ H d M' Q) R2 E2 p2 mvE fun w M3 u3 μ3 H3 g3 R3 E3 ru3 p3 => ?_
    obtain ⟨d4, M4, e4, f4⟩ := post2 p3 (nx_bm _ _ _)
    simp only [bmF] at e4
    cases hl : look M3 (.ref m) k with
    | none => rw [hl] at e4; cases e4
    | some oo =>
      rw [hl] at e4
      injection e4 with e5 e6
      subst e5 e6
      obtain ⟨a2, o', ea, gg, g1, g2', _⟩ := look_ok R3 (RV.grow g3 _ _ (RV.grow g2 _ _ rv)) (RV.grow g3 _ _ ru) hl
      obtain rfl : ad = a2 := by injection ea
      refine ⟨o', gg, ?_⟩
      cases oo with
      | none => rw [g2' rfl]; exact Fin.same f4 R3 ru3
      | some d5 =>
        obtain ⟨w5, h5, r5⟩ := g1 d5 rfl
        rw [h5]
        exact Fin.same f4 R3 r5
  · exact p.elim
end
end MP

/-! Mp2i: tests, targets. -/
namespace MP
open PySem PySem.Spec PyProof.Rows L2
section
variable {W : Wd} {n : Nat} {Wx : WX} {X : Cx} {c : Cs} {e l r x y z o : Expr} {es : List Expr} {a b d as : E} {pos p apos cpos : Pos}
theorem toTest_ok {x : D} {M : Mem} {k : Bool} {M' : Mem} (h : toTest x M = .ok k M') : truth M x = some k ∧ M' = M := by
  unfold toTest at h
  split at h
  · rename_i q
    injection h with h1 h2
    subst h1 h2
    exact ⟨q, rfl⟩
  · cases h
theorem post_test {σ : L2.St} {μ : Mu} {H : Hp} {M : Mem} {Q : Bool → Hp → Prop} {x : D} (R : Rep W.T μ H M) (p : PostB W Wx σ μ H Q (toTest x M)) : ∃ k, truth M x = some k ∧ Q k H := by
  cases q : toTest x M with
  | ok k M' =>
    rw [q] at p
    obtain ⟨h1, rfl⟩ := toTest_ok q
    exact ⟨k, h1, p μ H (Grow.refl _ _) R⟩
  | exc c M' =>
    unfold toTest at q
    split at q <;> cases q
  | stuck => rw [q] at p; exact p.elim
theorem t_plain (ha : PE X e (tD W n Wx a)) (he : ∀ whole, isTrue e X.env whole = (do let v ← whole; standAt e.pos; holding [v] (truthy v))) : PT X e (tT W n Wx a) := by
  refine (pt_truth ha he).weak fun σ H Q q => ?_
  obtain ⟨μ, ρ, M, R, E, q⟩ := q
  refine tD_step (G := fun μ H d M' => FinB W μ H d M' Q) R E q mvB fun d M1 v μ1 H1 g R1 E1 rv p => ?_
  obtain ⟨k, e1, e2⟩ := post_test R1 p
  exact ⟨k, truth_ok R1 rv e1, e2⟩
/-- a test whose value is a truth -/
theorem t_bool {σ : L2.St} {H : Hp} {Q : Bool → Hp → Prop} (hb : ∀ ρ M d M', W.ev n a ρ M = .ok d M' → ∃ k, d = .bl k) (q : tT W n Wx a σ H Q) : tD W n Wx a σ H fun x H' => ∃ k, x = .bl k ∧ Q k H' := by
  obtain ⟨μ, ρ, M, R, E, q⟩ := q
  refine ⟨μ, ρ, M, R, E, q.bind fun d M1 e p v μ1 H1 g R1 rv => ?_⟩
  obtain ⟨k, rfl⟩ := hb ρ M d M1 e
  obtain rfl := rv
  exact ⟨k, rfl, p μ1 H1 g R1⟩
theorem ofB_bl {o : Option Bool} {M : Mem} {d : D} {M' : Mem} (h : MP.R.ofB o M = .ok d M') : ∃ k, d = .bl k := by
  cases o with
  | none => cases h
  | some k => injection h with h1 _; exact ⟨k, h1.symm⟩
theorem bind_bl {α : Type} {r : R α} {f : α → Mem → R D} {d : D} {M' : Mem} (h : r.bind f = .ok d M') (hf : ∀ a M d M', f a M = .ok d M' → ∃ k, d = .bl k) : ∃ k, d = .bl k := by
  cases r with
  | ok a M => exact hf a M d M' h
  | exc c M => cases h
  | stuck => cases h
theorem t_cmp (C : Conf W n X c) {op : CmpOp} (ha : PE X l (tD W n Wx a)) (hb : PE X r (tD W n Wx b)) (hm : behindInMarks op r = false) : PT X (.Compare l [op] [r] pos) (tT W n Wx (.cmp op a b)) :=
  (pt_cmpR (op_cmp C.un op) ha hb hm).weak fun σ H Q q => w_cmp (t_bool (fun ρ M d M' h => bind_bl h fun _ _ _ _ h => bind_bl h fun _ _ _ _ h => ofB_bl h) q)
theorem t_isN {k : Nat} {m : Bool} (ha : PE X l (tD W n Wx a)) : PT X (.Compare l [if m then CmpOp.IsNot else CmpOp.Is] [.Constant .none k p] pos) (tT W n Wx (.isN m a)) := by
  have hb : ∀ ρ M d M', W.ev n (.isN m a) ρ M = .ok d M' → ∃ k, d = .bl k := fun ρ M d M' h => bind_bl h fun x M d M' h => by
    injection h with h1 _
    exact ⟨_, h1.symm⟩
  cases m with
  | false => exact (pt_cmp (pc_isN ha) rfl).weak fun σ H Q q => w_isN (t_bool hb q)
  | true => exact (pt_cmp (pc_notN ha) rfl).weak fun σ H Q q => w_notN (t_bool hb q)
theorem t_chn (C : Conf W n X c) {op op' : CmpOp} (ha : PE X x (tD W n Wx a)) (hb : PE X y (tD W n Wx b)) (hd : PE X z (tD W n Wx d)) (hm : behindInMarks op' z = false) : PT X (.Compare x [op, op'] [y, z] pos) (tT W n Wx (.chn op op' a b d)) := by
  refine (pt_chain (op_cmp C.un op) (op_cmp C.un op') ha hb hd hm).weak fun σ H Q q => w_chn (t_bool (fun ρ M d' M' h => bind_bl h fun x M1 _ _ h => bind_bl h fun y M2 _ _ h => ?_) q)
  split at h
  · exact bind_bl h fun _ _ _ _ h => ofB_bl h
  · injection h with h1 _; exact ⟨_, h1.symm⟩
  · cases h
theorem t_not (ha : PT X x (tT W n Wx a)) : PT X (.UnaryOp .Not x pos) (tT W n Wx (.not a)) := by
  refine (pt_not ha).weak fun σ H Q q => ?_
  obtain ⟨μ, ρ, M, R, E, q⟩ := q
  refine ⟨μ, ρ, M, R, E, ?_⟩
  have e : (W.ev n (.not a) ρ M).bind toTest = ((W.ev n a ρ M).bind toTest).bind fun k M => .ok (!k) M := by
    simp only [Wd.ev, eval]
    cases eval W.P.gl (callF W.P n) a ρ M with
    | ok d M1 =>
      simp only [MP.R.bind_ok, toTest]
      cases truth M1 d with
      | none => rfl
      | some k => rfl
    | _ => rfl
  rw [e] at q
  exact q.bind fun k M1 _ p μ' H' g R' => p μ' H' g R'
theorem w_and {σ : L2.St} {H : Hp} {Q : Bool → Hp → Prop} (q : tT W n Wx (.and a b) σ H Q) : tAnd (tT W n Wx a) (tT W n Wx b) σ H Q := by
  obtain ⟨μ, ρ, M, R, E, q⟩ := q
  refine ⟨μ, ρ, M, R, E, ?_⟩
  have e : (W.ev n (.and a b) ρ M).bind toTest = ((W.ev n a ρ M).bind toTest).bind fun k M => if k then (W.ev n b ρ M).bind toTest else .ok false M := by
    simp only [Wd.ev, eval]
    cases eval W.P.gl (callF W.P n) a ρ M with
    | ok d M1 =>
      simp only [MP.R.bind_ok, toTest]
      cases ht : truth M1 d with
      | none => rfl
      | some k =>
        cases k with
        | true => rfl
        | false => simp [toTest, ht]
    | _ => rfl
  rw [e] at q
  refine q.bind fun k M1 _ p μ' H' g R' => ?_
  cases k with
  | true => exact iteT ⟨μ', ρ, M1, R', E.grow g, p.move g (mvB μ' H' g)⟩
  | false => exact iteF ((show FinB W μ H false M1 Q from p) μ' H' g R')
theorem w_or {σ : L2.St} {H : Hp} {Q : Bool → Hp → Prop} (q : tT W n Wx (.or a b) σ H Q) : tOr (tT W n Wx a) (tT W n Wx b) σ H Q := by
  obtain ⟨μ, ρ, M, R, E, q⟩ := q
  refine ⟨μ, ρ, M, R, E, ?_⟩
  have e : (W.ev n (.or a b) ρ M).bind toTest = ((W.ev n a ρ M).bind toTest).bind fun k M => if k then .ok true M else (W.ev n b ρ M).bind toTest := by
    simp only [Wd.ev, eval]
    cases eval W.P.gl (callF W.P n) a ρ M with
    | ok d M1 =>
      simp only [MP.R.bind_ok, toTest]
      cases ht : truth M1 d with
      | none => rfl
      | some k =>
        cases k with
        | false => rfl
        | true => simp [toTest, ht]
    | _ => rfl
  rw [e] at q
  refine q.bind fun k M1 _ p μ' H' g R' => ?_
  cases k with
  | true => exact iteT ((show FinB W μ H true M1 Q from p) μ' H' g R')
  | false => exact iteF ⟨μ', ρ, M1, R', E.grow g, p.move g (mvB μ' H' g)⟩
theorem _root_.L2.PW.weak {X : Cx} {e : Expr} {t t' : TT} (h : PW X e t) (w : ∀ σ H Q, t' σ H Q → t σ H Q) : PW X e t' := ⟨fun wh pins s σ H Q I q => h.run wh pins s σ H Q I (w _ _ _ q)⟩
theorem t_and {rest : List Expr} (ha : PT X x (tT W n Wx a)) (hb : PW X (.BoolOp .And (y :: rest) pos) (tT W n Wx b)) : PW X (.BoolOp .And (x :: y :: rest) pos) (tT W n Wx (.and a b)) :=
  (pw_and ha hb).weak fun σ H Q q => w_and q
theorem t_or {rest : List Expr} (ha : PT X x (tT W n Wx a)) (hb : PW X (.BoolOp .Or (y :: rest) pos) (tT W n Wx b)) : PW X (.BoolOp .Or (x :: y :: rest) pos) (tT W n Wx (.or a b)) :=
  (pw_or ha hb).weak fun σ H Q q => w_or q
theorem e_ife {t : E} (ht : PT X x (tT W n Wx t)) (ha : PE X y (tD W n Wx a)) (hb : PE X z (tD W n Wx b)) : PE X (.IfExp x y z pos) (tD W n Wx (.ife t a b)) := by
  refine (pe_ifExp ht ha hb).weak fun σ H Q q => ?_
  obtain ⟨μ, ρ, M, R, E, q⟩ := q
  refine ⟨μ, ρ, M, R, E, ?_⟩
  have e : W.ev n (.ife t a b) ρ M = ((W.ev n t ρ M).bind toTest).bind fun k M => if k then W.ev n a ρ M else W.ev n b ρ M := by
    simp only [Wd.ev, eval]
    cases eval W.P.gl (callF W.P n) t ρ M with
    | ok d M1 =>
      simp only [MP.R.bind_ok, toTest]
      cases ht : truth M1 d with
      | none => rfl
      | some k => cases k <;> rfl
    | _ => rfl
  rw [e] at q
  refine q.bind fun k M1 _ p μ' H' g R' => ?_
  cases k with
  | true => exact iteT ⟨μ', ρ, M1, R', E.grow g, p.move g (mvE μ' H' g)⟩
  | false => exact iteF ⟨μ', ρ, M1, R', E.grow g, p.move g (mvE μ' H' g)⟩
/-! ### targets -/
def Tg.len : Tg → Nat
  | .cons _ ts => ts.len + 1
  | _ => 0
mutual
def gOf (K : PySem.W.Frag) : Tg → TG
  | .name i => gName i
  | .tup ts => gTup K ts.len (gsOf K ts)
  | .nil => fun _ _ _ _ => False
  | .cons _ _ => fun _ _ _ _ => False
def gsOf (K : PySem.W.Frag) : Tg → TGs
  | .nil => gNil
  | .cons t ts => gCons (gOf K t) (gsOf K ts)
  | .name _ => fun _ _ _ _ => False
  | .tup _ => fun _ _ _ _ => False
end
theorem asgE_cons {e : Expr} {es : List Expr} (h : starB e = false) : assignEach (e :: es) X.env = (false, assign e X.env) :: assignEach es X.env := by
  cases e <;> first | rfl | (cases h; done)
mutual
theorem sTg (C : Conf W n X c) : ∀ (t : Tg) (e : Expr), mTg c t e = true → PG X e (gOf X.K t)
  | .name i, e, h => by
    cases e with
    | Name x q =>
      simp only [mTg, Bool.and_eq_true, decide_eq_true_eq, Bool.or_eq_true] at h
      simp only [gOf]
      refine pg_name C.nd (by rw [C.N]; exact h.1.1) (by rw [C.sc]; exact locB_ok h.1.2) ?_
      rcases h.2 with h2 | h2
      · exact .inl (by rw [C.fn]; exact h2)
      · exact .inr (by rw [C.sc]; exact h2)
    | _ => simp only [mTg] at h; cases h
  | .tup ts, e, h => by
    cases e with
    | Tuple es k q =>
      simp only [mTg, Bool.and_eq_true] at h
      simp only [gOf]
      obtain ⟨h1, h2, h3⟩ := sTgs C ts es h.2
      exact pg_tup (by rw [C.calm]; exact h.1) h1 h2 h3
    | _ => simp only [mTg] at h; cases h
  | .nil, _, h => by simp only [mTg] at h; cases h
  | .cons _ _, _, h => by simp only [mTg] at h; cases h
theorem sTgs (C : Conf W n X c) : ∀ (ts : Tg) (es : List Expr), mTgs c ts es = true → PGs X es (gsOf X.K ts) ∧ (assignEach es X.env).length = ts.len ∧ (assignEach es X.env).findIdx? (·.1) = none
  | .nil, es, h => by
    cases es with
    | nil => exact ⟨by simp only [gsOf]; exact pgs_nil, rfl, rfl⟩
    | cons _ _ => simp only [mTgs] at h; cases h
  | .cons t ts, es, h => by
    cases es with
    | nil => simp only [mTgs] at h; cases h
    | cons e es =>
      simp only [mTgs, Bool.and_eq_true, Bool.not_eq_true'] at h
      obtain ⟨h1, h2, h3⟩ := sTgs C ts es h.2
      refine ⟨?_, ?_, ?_⟩
      · simp only [gsOf]
        exact pgs_cons (sTg C t e h.1.2) h1 (by rw [asgE_cons h.1.1]; rfl)
      · rw [asgE_cons h.1.1]; simp only [List.length_cons, Tg.len, h2]
      · rw [asgE_cons h.1.1, List.findIdx?_cons]
        simp only [Bool.false_eq_true, if_false, h3, Option.map_none]
  | .name _, _, h => by simp only [mTgs] at h; cases h
  | .tup _, _, h => by simp only [mTgs] at h; cases h
end
theorem REnv.set {μ : Mu} {H : Hp} {σ : L2.St} {ρ : Env} {d : D} {v : V} (i : Nat) (h : REnv μ H σ ρ) (r : RV μ H d v) : REnv μ H (σ.set i (some v)) (ρ.set i (some d)) := by
  refine ⟨by simp [h.1], fun j d' e => ?_⟩
  by_cases hj : i = j
  · subst hj
    by_cases hl : i < ρ.length
    · rw [List.getElem?_set_self hl] at e
      obtain rfl : d = d' := Option.some.inj (Option.some.inj e)
      exact ⟨v, by rw [List.getElem?_set_self (by rw [h.1]; exact hl)], r⟩
    · rw [List.getElem?_eq_none (by simpa using hl)] at e
      cases e
  · rw [List.getElem?_set_ne hj] at e ⊢
    exact h.2 j d' e
theorem REnv.unset {μ : Mu} {H : Hp} {σ : L2.St} {ρ : Env} (i : Nat) (h : REnv μ H σ ρ) : REnv μ H (σ.set i none) (ρ.set i none) := by
  refine ⟨by simp [h.1], fun j d' e => ?_⟩
  by_cases hj : i = j
  · subst hj
    by_cases hl : i < ρ.length
    · rw [List.getElem?_set_self hl] at e; cases e
    · rw [List.getElem?_eq_none (by simpa using hl)] at e
      cases e
  · rw [List.getElem?_set_ne hj] at e ⊢
    exact h.2 j d' e
theorem REnv.wipe {μ : Mu} {H : Hp} {σ : L2.St} {ρ : Env} (h : REnv μ H σ ρ) : ∀ vs : List Nat, REnv μ H (L2.wipe σ vs) (MP.wipe ρ vs)
  | [] => h
  | v :: vs => by unfold L2.wipe MP.wipe; exact (REnv.wipe h vs).unset v
/-- what a target leaves as it was -/
def Kept (σ σ' : L2.St) (t : Tg) : Prop := σ'.length = σ.length ∧ ∀ i, i ∉ t.slots → σ'[i]? = σ[i]?
mutual
theorem asg_ok {K : PySem.W.Frag} {μ : Mu} {H : Hp} : ∀ (t : Tg) (d : D) (v : V) (σ : L2.St) (ρ ρ' : Env) (Q : L2.St → Hp → Prop), asg t d ρ = some ρ' → REnv μ H σ ρ → RV μ H d v → (∀ σ', REnv μ H σ' ρ' → Kept σ σ' t → Q σ' H) → gOf K t v σ H Q
  | .name i, d, v, σ, ρ, ρ', Q, e, E, r, k => by
    simp only [asg, Option.some.injEq] at e
    subst e
    simp only [gOf]
    exact k _ (E.set i r) ⟨by simp, fun j hj => by
      simp only [Tg.slots, List.mem_singleton] at hj
      rw [List.getElem?_set_ne (fun e => hj e.symm)]⟩
  | .tup ts, d, v, σ, ρ, ρ', Q, e, E, r, k => by
    cases d with
    | tup ds =>
      simp only [asg] at e
      obtain ⟨a, o, vs, rfl, n1, h1, od1, z1, q1⟩ := r
      simp only [gOf]
      refine ⟨a, vs, rfl, .inl (.inr ⟨o, h1⟩), ?_, asgL_ok ts ds vs σ ρ ρ' Q e E q1 fun σ' E' kk => k σ' E' kk⟩
      rw [← q1.length]
      exact asgL_len e
    | _ => cases e
  | .nil, _, _, _, _, _, _, e, _, _, _ => by cases e
  | .cons _ _, _, _, _, _, _, _, e, _, _, _ => by cases e
theorem asgL_ok {K : PySem.W.Frag} {μ : Mu} {H : Hp} : ∀ (ts : Tg) (ds : List D) (vs : List V) (σ : L2.St) (ρ ρ' : Env) (Q : L2.St → Hp → Prop), asgL ts ds ρ = some ρ' → REnv μ H σ ρ → RVs μ H ds vs → (∀ σ', REnv μ H σ' ρ' → Kept σ σ' ts → Q σ' H) → gsOf K ts vs σ H Q
  | .nil, ds, vs, σ, ρ, ρ', Q, e, E, r, k => by
    cases ds with
    | nil =>
      simp only [asgL, Option.some.injEq] at e
      subst e
      simp only [gsOf]
      exact ⟨r, k σ E ⟨rfl, fun _ _ => rfl⟩⟩
    | cons _ _ => cases e
  | .cons t ts, ds, vs, σ, ρ, ρ', Q, e, E, r, k => by
    cases ds with
    | nil => cases e
    | cons d ds =>
      simp only [asgL] at e
      cases h : asg t d ρ with
      | none => rw [h] at e; cases e
      | some ρ1 =>
        rw [h] at e
        obtain ⟨v, r', rfl, r1, r2⟩ := r
        simp only [gsOf]
        refine ⟨v, r', rfl, asg_ok t d v σ ρ ρ1 _ h E r1 fun σ1 E1 k1 => ?_⟩
        refine asgL_ok ts ds r' σ1 ρ1 ρ' Q e E1 r2 fun σ2 E2 k2 => k σ2 E2 ⟨k2.1.trans k1.1, fun i hi => ?_⟩
        simp only [Tg.slots, List.mem_append, not_or] at hi
        rw [k2.2 i hi.2, k1.2 i hi.1]
  | .name _, _, _, _, _, _, _, e, _, _, _ => by cases e
  | .tup _, _, _, _, _, _, _, e, _, _, _ => by cases e
theorem asgL_len : ∀ {ts : Tg} {ds : List D} {ρ ρ' : Env}, asgL ts ds ρ = some ρ' → ds.length = ts.len
  | .nil, ds, ρ, ρ', e => by
    cases ds with
    | nil => rfl
    | cons _ _ => cases e
  | .cons t ts, ds, ρ, ρ', e => by
    cases ds with
    | nil => cases e
    | cons d ds =>
      simp only [asgL] at e
      cases h : asg t d ρ with
      | none => rw [h] at e; cases e
      | some ρ1 =>
        rw [h] at e
        simp only [List.length_cons, Tg.len, asgL_len e]
  | .name _, _, _, _, e => by cases e
  | .tup _, _, _, _, e => by cases e
end
theorem wipe_get : ∀ (σ : L2.St) (vs : List Nat) (i : Nat), (L2.wipe σ vs)[i]? = if i ∈ vs then (if i < σ.length then some none else none) else σ[i]?
  | σ, [], i => by simp [L2.wipe]
  | σ, v :: vs, i => by
    unfold L2.wipe
    by_cases hv : v = i
    · subst hv
      rw [if_pos (by simp)]
      by_cases hl : v < σ.length
      · rw [if_pos hl, List.getElem?_set_self (by rw [wipe_length]; exact hl)]
      · rw [if_neg hl, List.getElem?_eq_none (by rw [List.length_set, wipe_length]; omega)]
    · rw [List.getElem?_set_ne hv, wipe_get σ vs i]
      by_cases hi : i ∈ vs
      · rw [if_pos hi, if_pos (List.mem_cons_of_mem _ hi)]
      · rw [if_neg hi, if_neg (by simp only [List.mem_cons, not_or]; exact ⟨fun e => hv e.symm, hi⟩)]
theorem wipe_kept {σ σ' : L2.St} {t : Tg} {vs : List Nat} (k : Kept σ σ' t) (h : ∀ i ∈ t.slots, i ∈ vs) : L2.wipe σ' vs = L2.wipe σ vs := by
  refine List.ext_getElem? fun i => ?_
  rw [wipe_get, wipe_get, k.1]
  by_cases hi : i ∈ vs
  · rw [if_pos hi, if_pos hi]
  · rw [if_neg hi, if_neg hi]
    exact k.2 i fun z => hi (h i z)
theorem wipe_wipe (σ : L2.St) (vs : List Nat) : L2.wipe (L2.wipe σ vs) vs = L2.wipe σ vs := by
  refine List.ext_getElem? fun i => ?_
  rw [wipe_get, wipe_get, wipe_length]
  by_cases hi : i ∈ vs
  · rw [if_pos hi, if_pos hi]
  · rw [if_neg hi, if_neg hi]
end
end MP

/-! Mp2y: what is walked: a list or a tuple, as it comes; enumerate of a list or a tuple. -/
namespace PySem
theorem meets_enumerate_newTup (l : Addr) (items : Array Value) (n : Nat) (dct : Option Addr) (sl : Array (Option Value)) :
    Meets (Builtin.«enumerate.__new__» ⟨[.type "enumerate", .ref l], []⟩) (fun _ R s => s.heap.get? l = some { cls := .type "tuple", dict := dct, data := .seq items n, slots := sl } ∧
      R (.ok (.ret (.ref (s.heap.push { cls := .type "tuple_iterator", data := .fields #[.ref l, .int 0 0] }).objs.size)))
        { s with heap := (s.heap.push { cls := .type "tuple_iterator", data := .fields #[.ref l, .int 0 0] }).push { cls := .type "enumerate", data := .fields #[.none, .bool false, .ref s.heap.objs.size, rawInt 0, .none, .none] } }) :=
  .of_wp fun prog w A R s h => by
    obtain ⟨hp, g, d, tk, os⟩ := s
    obtain ⟨hl, h⟩ := h
    have hsub := sub_enumerate
    have hL : hp.IsTuple l items := ⟨_, hl, rfl, n, rfl⟩
    wp_walk using wpAny_loadPart' hl
    refine wpAny_stack_any fun st => wpAny_pure ?_
    split
    · rename_i c _ _ _ _ _
      cases (c == Value.type "enumerate")
      · wp_walk using wpAny_loadPart' hl, wpAny_pyIter_tuple hL
        exact ⟨_, rfl, h⟩
      · wp_walk using wpAny_loadPart' hl, wpAny_pyIter_tuple hL
        exact ⟨_, rfl, h⟩
    · wp_walk using wpAny_loadPart' hl, wpAny_pyIter_tuple hL
      exact ⟨_, rfl, h⟩
section
variable {prog : Program} {w : World} {A : Around} {E : Value → Shared → Prop} {s : Shared}
theorem call_enumerate_tup {l : Addr} {items : Array Value} {Q : Value → Shared → Prop} (hL : s.heap.IsTuple l items)
    (h : ∀ h', IsEnum h' (s.heap.objs.size + 1) s.heap.objs.size 0 .none → h'.IsTupleIter s.heap.objs.size l 0 → h'.objs.size = s.heap.objs.size + 2 →
      (∀ b o, s.heap.get? b = some o → h'.get? b = some o) → Q (.ref (s.heap.objs.size + 1)) { s with heap := h' }) :
    wpAny (model prog w) A (call (.type "enumerate") [.ref l]) Q E s := by
  obtain ⟨⟨c, dct, dt, sl⟩, hl, hc, n, hd⟩ := hL
  replace hc : c = .type "tuple" := hc
  replace hd : dt = .seq items n := hd
  subst hc hd
  refine callType_new F.called_enumerate (by decide) (F.typeCall_enumerate_1 _) (F.newCall_enumerate_1 _) (fun obj => F.args_object_init_2 obj _) F.entry_enumerate_new
    (meets_enumerate_newTup l items n dct sl) ⟨hl, ?_⟩
  have hz : (s.heap.push { cls := .type "tuple_iterator", data := .fields #[.ref l, .int 0 0] }).objs.size = s.heap.objs.size + 1 := Heap.size_push ..
  show _ ∧ _
  rw [hz]
  have he : IsEnum ((s.heap.push { cls := .type "tuple_iterator", data := .fields #[.ref l, .int 0 0] }).push
      { cls := .type "enumerate", data := .fields #[.none, .bool false, .ref s.heap.objs.size, rawInt 0, .none, .none] }) (s.heap.objs.size + 1) s.heap.objs.size 0 .none := by
    have := Heap.get?_push_size (s.heap.push { cls := .type "tuple_iterator", data := .fields #[.ref l, .int 0 0] })
      (o := { cls := .type "enumerate", data := .fields #[.none, .bool false, .ref s.heap.objs.size, rawInt 0, .none, .none] }) rfl
    rw [hz] at this; exact this
  refine ⟨⟨_, he, rfl⟩, h _ he ⟨_, Heap.get?_push_of_some _ (Heap.get?_push_size _ rfl), rfl, rfl⟩ (by rw [Heap.size_push, hz]) fun b o x => Heap.get?_push_of_some _ (Heap.get?_push_of_some _ x)⟩
theorem wpAny_pyNext_enum_endT {e it l : Addr} {i : Nat} {items : Array Value} {old : Value} {Q : Option Value → Shared → Prop} (hh : A.handled = none)
    (he : IsEnum s.heap e it i old) (hit : s.heap.IsTupleIter it l i) (hl : s.heap.IsTuple l items) (hx : items[i]? = none)
    (hQ : ∀ h', Heap.ExtBut it s.heap h' → Q none { s with heap := h' }) : wpAny (model prog w) A (pyNext (.ref e)) Q E s := by
  have hT : s.TypeIs (.ref e) "enumerate" := ⟨_, he, rfl⟩
  unfold pyNext
  refine wpAny_bind (wpAny_attempt (wpAny_callSpecial?_slot (name := Str.ofString "__next__") hT F.slot_enumerate_next
    (wpAny_call_entry F.slot_enumerate_next hT F.entry_enumerate_next ?_ (F.args_enumerate_next_1 _))))
  show wpAny _ _ (field (.ref e) 2 >>= _) _ _ _
  refine wpAny_bind (wpAny_field he rfl (x := .ref it) rfl ?_)
  refine wpAny_bind (wpAny_nextOf_tuple_end hh hit hl hx fun h' x he' hx' => ?_)
  obtain ⟨o, ho, hc⟩ := hx'
  refine wpAny_bind (wpAny_isInstance (T := "StopIteration") (b := true) ⟨o, ho, hc⟩ isSubtype_stop ?_)
  exact wpAny_pure (hQ _ he')
end
end PySem
namespace MP
open PySem PySem.Spec PyProof.Rows L2
def IteT (K : PySem.W.Frag) (a : Addr) : L2.It :=
  ⟨fun i H => ∃ (xs : List V) (x : V), SqT K H a xs ∧ xs[i]? = some x, fun i H v H' => ∃ T x, v = .ref T ∧ H T = none ∧ H' = upd H T (.tup [.int (i : Nat), x]) ∧ ∀ xs, SqT K H a xs → xs[i]? = some x, fun i H => ∃ xs : List V, SqT K H a xs ∧ xs.length ≤ i⟩
theorem turn_enumT {P : Program} {w : World} {K : PySem.W.Frag} {elts : List Expr} {kk : Nat} {tpos : Pos} (a e it : Addr) (hai : a ≠ it) :
    Turn P w K (.Tuple elts kk tpos) (IteT K a) [e, it] e (fun i h => (∃ old, IsEnum h e it ((i : Nat) : Int) old) ∧ h.IsTupleIter it a i ∧ e ≠ it ∧ e ≠ a) where
  mem := by simp
  obj := fun i h st b hb => by
    obtain ⟨⟨old, he⟩, ⟨o, ho, hc, hd⟩, _⟩ := st
    have e' : b = e ∨ b = it := by simpa using hb
    rcases e' with z | z
    · rw [z]; exact ⟨_, he, fun v q => nomatch q⟩
    · rw [z]; exact ⟨o, ho, fun v q => by rw [hd] at q; cases q⟩
  keep := fun i h h' st k => let ⟨⟨old, he⟩, hi, hne, hea⟩ := st; ⟨⟨old, k e (by simp) _ he⟩, hi.at fun o q => k it (by simp) o q, hne, hea⟩
  item := by
    intro X hP hw hK hc i pins s σ H E I hf st hg
    subst hP hw hK
    obtain ⟨⟨old, he⟩, hit, hne, hea⟩ := st
    obtain ⟨xs, x, hq, hx⟩ := hg
    obtain ⟨its, rv, p, hz⟩ := I.tuple hq
    obtain ⟨u, hu, ru⟩ := rv.get hx
    have hel : e < s.heap.objs.size := Heap.lt_size he
    have hil : it < s.heap.objs.size := by obtain ⟨_, q, _⟩ := hit; exact Heap.lt_size q
    have hlt : i < its.toArray.size := by simpa using (List.getElem?_eq_some_iff.mp hu).1
    refine wpAny_pyNext_enum_itemD (Draws.tuple (A := X.A.in1) (I.ok.hd hc) it a hai its.toArray) he ⟨hit, p⟩ hlt hne (by simp [hne, hea]) fun x' h' tk hP ho hst' hT hsz hk => ?_
    have hxu : x' = u := by
      have hP' : its.toArray[i]? = some x' := hP
      have hu' : its.toArray[i]? = some u := by simpa using hu
      rw [hu'] at hP'
      exact (Option.some.inj hP').symm
    subst hxu
    refine ⟨_, rfl, wpAny_letOwnedTupleGo_enum (s := { s with heap := h', toks := tk + 1 }) ho fun h'' he' sb => ?_⟩
    have hT2 : h''.get? s.heap.objs.size = some { cls := .type "tuple", data := .seq #[.int i tk, x'] } := (sb.2 _ (Nat.ne_of_gt hel)).trans hT
    have new : ObjOk X.prog X.w (upd H s.heap.objs.size (.tup [.int (i : Nat), x])) h'' s.heap.objs.size (.tup [.int (i : Nat), x]) :=
      ⟨by show 2 ≤ sizeLine; decide, [.int i tk, x'], .cons ⟨_, rfl⟩ (.cons ru .nil), ⟨_, hT2, rfl, _, rfl⟩⟩
    have I1 : Inv X pins σ (upd H s.heap.objs.size (.tup [.int (i : Nat), x])) { s with heap := h'', toks := tk + 1 } :=
      I.turnedNew (ch := [e, it]) (fun b ob hb q => (sb.2 b (fun z => hb (by simp [z]))).trans (hk b ob (fun z => hb (by simp [z])) (fun z => hb (by simp [z])) q)) hf (Nat.le_refl _) new
    refine ⟨.ref s.heap.objs.size, _, I1, rfl, ⟨_, x, rfl, I.hok.fresh (Nat.le_refl _), rfl, fun ys hy => by rw [I.tuple_inj hy hq]; exact hx⟩, ⟨⟨x', ?_⟩, hst'.1.at fun o q => (sb.2 it (Ne.symm hne)).trans q, hne, hea⟩, fun b hb => ?_⟩
    · have e1 : ((i + 1 : Nat) : Int) = (i : Int) + 1 := by omega
      rw [e1]; exact he'
    · have hb' : b < s.heap.objs.size := by
        have e' : b = e ∨ b = it := by simpa using hb
        rcases e' with z | z
        · rw [z]; exact hel
        · rw [z]; exact hil
      rw [upd_ne (Nat.ne_of_lt hb')]
      exact (hf b hb).1
  done := by
    intro X hP hw hK hc i pins s σ H E I hf st hg
    subst hP hw hK
    obtain ⟨⟨old, he⟩, hit, hne, hea⟩ := st
    obtain ⟨xs, hq, hx⟩ := hg
    obtain ⟨its, rv, p, hz⟩ := I.tuple hq
    obtain ⟨f0, f1, f2, f3, f4, f5⟩ := hf it (by simp)
    have hl := rv.length
    exact wpAny_pyNext_enum_endT (I.ok.hd hc) he hit (show s.heap.IsTuple a its.toArray from p) (by simp; omega) fun h' eb => ⟨rfl, I.turned (t' := s.toks) (fun b o hb q => eb b o hb q) f0 f1 f3 f4 f5⟩
  self := fun A i s Q E st h => let ⟨⟨_, he⟩, _⟩ := st; wpAny_pyIter_enum he h
section
variable {X : Cx} {tg : Expr}
/-- enumerate(list or tuple) -/
def iEnumA (K : PySem.W.Frag) (ta : TA) : TI := fun σ H R => ta σ H fun vs H1 => ∃ a xs, vs = [.ref a] ∧ ((SqL K H1 a xs ∧ R (Ite K a) H1) ∨ (SqT K H1 a xs ∧ R (IteT K a) H1))
theorem pi_enumA {e : Expr} {ta : TA} {p pos tpos : Pos} {elts : List Expr} {kk : Nat} (hg : Gl X "enumerate") (hm : X.mg "enumerate" = none) (ha : PA X [e] ta) (hs : starEach [e] X.env = [(false, PySem.eval e X.env)]) :
    PI X (.Tuple elts kk tpos) (.Call (.Name "enumerate" p) [e] [] pos) (iEnumA X.K ta) := by
  refine ⟨fun pins s σ H R I h => ?_⟩
  refine Call_ (ld_blt I hg hm boot_enumerate (PyProof.Rows.callWith_type1 (thn (ha.run pos pins s σ H _ I h) fun us s1 ⟨vs, H1, I1, r1, q1⟩ => ?_) hs rfl))
  obtain ⟨a, xs, ex, q1⟩ := q1
  subst ex
  cases r1 with
  | cons r rr =>
    cases rr
    cases r
    have fp : ∀ b, b ∈ [s1.heap.objs.size + 1, s1.heap.objs.size] → FpOk X pins H1 b := fun b hb => by
      have e' : b = s1.heap.objs.size + 1 ∨ b = s1.heap.objs.size := by simpa using hb
      have hle : s1.heap.objs.size ≤ b := by
        rcases e' with z | z
        · rw [z]; exact Nat.le_add_right _ _
        · rw [z]; exact Nat.le_refl _
      exact I1.fpOk hle (I1.hok.fresh hle)
    rcases q1 with ⟨hq, q⟩ | ⟨hq, q⟩
    · obtain ⟨its, rv, p', hz⟩ := I1.list hq
      refine call_enumerate_list p'.isList fun h' he hit hsz hk => wpAny_pyIter_enum he ?_
      have I2 : Inv X pins σ H1 { s1 with heap := h' } := I1.kept (t' := s1.toks) hk
      exact ⟨s1.heap.objs.size + 1, [s1.heap.objs.size + 1, s1.heap.objs.size], _, _, H1, rfl, I2, turn_enum a (s1.heap.objs.size + 1) s1.heap.objs.size, ⟨⟨.none, he⟩, hit, Nat.succ_ne_self _⟩, fp, q⟩
    · obtain ⟨its, rv, p', hz⟩ := I1.tuple hq
      have hal : a < s1.heap.objs.size := p'.lt
      refine call_enumerate_tup p' fun h' he hit hsz hk => wpAny_pyIter_enum he ?_
      have I2 : Inv X pins σ H1 { s1 with heap := h' } := I1.kept (t' := s1.toks) hk
      exact ⟨s1.heap.objs.size + 1, [s1.heap.objs.size + 1, s1.heap.objs.size], _, _, H1, rfl, I2, turn_enumT a (s1.heap.objs.size + 1) s1.heap.objs.size (Nat.ne_of_lt hal), ⟨⟨.none, he⟩, hit, Nat.succ_ne_self _, Nat.ne_of_gt (Nat.lt_succ_of_lt hal)⟩, fp, q⟩
/-- a list, a tuple, as it comes -/
def iSeqA (K : PySem.W.Frag) (tl : TE) : TI := fun σ H R => tl σ H fun x H1 => (∃ a, x = .ref a ∧ (∃ xs, SqL K H1 a xs) ∧ R (Itl K a) H1) ∨ (∃ a, x = .ref a ∧ (∃ xs, SqT K H1 a xs) ∧ R (Itt K a) H1)
theorem pi_seqA {l : Expr} {tl : TE} (hl : PE X l tl) : PI X tg l (iSeqA X.K tl) := by
  refine ⟨fun pins s σ H R I h => ?_⟩
  refine thn (hl.run pins s σ H _ I h) fun v s1 ⟨x, H1, I1, r1, q1⟩ => ?_
  rcases q1 with ⟨a, e, ⟨xs, hq⟩, q⟩ | ⟨a, e, ⟨xs, hq⟩, q⟩
  · subst e
    cases r1
    obtain ⟨its, rv, p, hz⟩ := I1.list hq
    refine wpAny_pyIter_list p.isList ?_
    refine ⟨s1.heap.objs.size, [s1.heap.objs.size], _, _, H1, rfl, I1.kept (t' := s1.toks) fun b o e => Heap.get?_push_of_some _ e, turn_list a _, ⟨_, Heap.get?_push_size _ rfl, rfl, rfl⟩, fun b hb => ?_, q⟩
    have e : b = s1.heap.objs.size := by simpa using hb
    subst e
    exact I1.fpOk (Nat.le_refl _) (I1.hok.fresh (Nat.le_refl _))
  · subst e
    cases r1
    obtain ⟨its, rv, p, hz⟩ := I1.tuple hq
    refine wpAny_pyIter_tuple (show s1.heap.IsTuple a its.toArray from p) ?_
    refine ⟨s1.heap.objs.size, [s1.heap.objs.size], _, _, H1, rfl, I1.kept (t' := s1.toks) fun b o e => Heap.get?_push_of_some _ e, turn_tuple a _, ⟨_, Heap.get?_push_size _ rfl, rfl, rfl⟩, fun b hb => ?_, q⟩
    have e : b = s1.heap.objs.size := by simpa using hb
    subst e
    exact I1.fpOk (Nat.le_refl _) (I1.hok.fresh (Nat.le_refl _))
end
end MP

/-! Mp2j: what is walked. -/
namespace MP
open PySem PySem.Spec PyProof.Rows L2
/-! ### values move -/
structure Mv (μ : Mu) (H : Hp) (μ' : Mu) (H' : Hp) : Prop where
  get : ∀ (i : Nat) (a : Addr), μ.l[i]? = some a → μ'.l[i]? = some a
  kp : ∀ a o, H a = some o → ¬ μ.has a → H' a = some o ∧ ¬ μ'.has a
section
variable {T : Ad} {μ μ' : Mu} {H H' : Hp} {M : Mem}
theorem Mv.rd (g : Mv μ H μ' H') {a : Addr} {u : HO} (r : Rd H a u) (n : ¬ μ.has a) : Rd H' a u ∧ ¬ μ'.has a := by
  rcases r with r | ⟨o, r⟩
  · exact ⟨.inl (g.kp _ _ r n).1, (g.kp _ _ r n).2⟩
  · exact ⟨.inr ⟨o, (g.kp _ _ r n).1⟩, (g.kp _ _ r n).2⟩
mutual
theorem RV.mv (g : Mv μ H μ' H') : ∀ (d : D) (v : V), RV μ H d v → RV μ' H' d v
  | .non, _, h => h
  | .bl _, _, h => h
  | .int _, _, h => h
  | .str _, _, h => h
  | .tup ds, v, ⟨a, o, xs, e, n, h, od, z, r⟩ => ⟨a, o, xs, e, (g.kp _ _ h n).2, (g.kp _ _ h n).1, od, z, RVs.mv g ds xs r⟩
  | .lst ds, v, ⟨a, xs, e, n, h, z, r⟩ => ⟨a, xs, e, (g.rd h n).2, (g.rd h n).1, z, RVs.mv g ds xs r⟩
  | .ref n, v, ⟨a, e, h⟩ => ⟨a, e, g.get _ _ h⟩
theorem RVs.mv (g : Mv μ H μ' H') : ∀ (ds : List D) (xs : List V), RVs μ H ds xs → RVs μ' H' ds xs
  | [], _, h => h
  | d :: ds, _, ⟨x, r, e, h1, h2⟩ => ⟨x, r, e, RV.mv g d x h1, RVs.mv g ds r h2⟩
end
theorem RK.mv {κ : Type} (g : Mv μ H μ' H') : ∀ (ds : List (κ × D)) (xs : List (κ × V)), RK μ H ds xs → RK μ' H' ds xs
  | [], _, h => h
  | (k, d) :: ds, _, ⟨x, r, e, h1, h2⟩ => ⟨x, r, e, RV.mv g d x h1, RK.mv g ds r h2⟩
theorem RF.mv (g : Mv μ H μ' H') : ∀ (ds : List (Nat × D)) (xs : List (Str × V)), RF T μ H ds xs → RF T μ' H' ds xs
  | [], _, h => h
  | (k, d) :: ds, _, ⟨x, r, e, h1, h2⟩ => ⟨x, r, e, RV.mv g d x h1, RF.mv g ds r h2⟩
theorem REnv.mv {σ : L2.St} {ρ : Env} (g : Mv μ H μ' H') (h : REnv μ H σ ρ) : REnv μ' H' σ ρ :=
  ⟨h.1, fun i d e => let ⟨v, q, r⟩ := h.2 i d e; ⟨v, q, RV.mv g d v r⟩⟩
theorem RO.mv {o : MO} {a : Addr} (g : Mv μ H μ' H') (e : H' a = H a) (h : RO T μ H o a) : RO T μ' H' o a := by
  cases o with
  | lst ds => obtain ⟨xs, e1, z, r⟩ := h; exact ⟨xs, e.trans e1, z, RVs.mv g _ _ r⟩
  | dK ds => obtain ⟨xs, e1, z, r⟩ := h; exact ⟨xs, e.trans e1, z, RK.mv g _ _ r⟩
  | dT ds => obtain ⟨xs, e1, z, r⟩ := h; exact ⟨xs, e.trans e1, z, RK.mv g _ _ r⟩
  | ins C fs => obtain ⟨dx, xs, e1, r⟩ := h; exact ⟨dx, xs, e.trans e1, RF.mv g _ _ r⟩
/-- a list that is being filled is hidden -/
theorem Rep.hide {p : Addr} {u : HO} (R : Rep T μ H M) (hp : H p = none) : Rep T ⟨μ.l, p :: μ.h⟩ (upd H p u) M ∧ Mv μ H ⟨μ.l, p :: μ.h⟩ (upd H p u) := by
  have hn := R.fresh hp
  have g : Mv μ H ⟨μ.l, p :: μ.h⟩ (upd H p u) := ⟨fun _ _ h => h, fun a o h n => by
    have hap : a ≠ p := ne_of_none h hp
    refine ⟨by rw [upd_ne hap]; exact h, fun z => ?_⟩
    rcases z with z | z
    · exact n (.inl z)
    · rcases List.mem_cons.mp z with z | z
      · exact hap z
      · exact n (.inr z)⟩
  refine ⟨⟨R.nd, R.len, fun i a w hi hw => ?_, fun a ha => ?_⟩, g⟩
  · have ha : a ≠ p := fun e => hn (.inl (e ▸ List.mem_of_getElem? hi))
    exact (R.obj i a w hi hw).mv g (upd_ne ha)
  · rcases List.mem_cons.mp ha with z | z
    · subst z
      exact ⟨⟨u, upd_same⟩, fun q => hn (.inl q)⟩
    · obtain ⟨⟨o, e⟩, n⟩ := R.hid a z
      exact ⟨⟨o, by rw [upd_ne (ne_of_none e hp)]; exact e⟩, n⟩
/-- .. filled -/
theorem Rep.fill {p : Addr} {u : HO} (R : Rep T μ H M) (hp : p ∈ μ.h) : Rep T μ (upd H p u) M ∧ Mv μ H μ (upd H p u) := by
  have g : Mv μ H μ (upd H p u) := ⟨fun _ _ h => h, fun a o h n => by
    have hap : a ≠ p := fun e => n (.inr (by rw [e]; exact hp))
    exact ⟨by rw [upd_ne hap]; exact h, n⟩⟩
  refine ⟨⟨R.nd, R.len, fun i a w hi hw => ?_, fun a ha => ?_⟩, g⟩
  · have ha : a ≠ p := fun e => (R.hid p hp).2 (e ▸ List.mem_of_getElem? hi)
    exact (R.obj i a w hi hw).mv g (upd_ne ha)
  · obtain ⟨⟨o, e⟩, n⟩ := R.hid a ha
    by_cases hap : a = p
    · subst hap
      exact ⟨⟨u, upd_same⟩, n⟩
    · exact ⟨⟨o, by rw [upd_ne hap]; exact e⟩, n⟩
/-- .. is a value -/
theorem Rep.show {p : Addr} {l h : List Addr} (R : Rep T ⟨l, p :: h⟩ H M) : Rep T ⟨l, h⟩ H M ∧ Mv ⟨l, p :: h⟩ H ⟨l, h⟩ H := by
  have g : Mv ⟨l, p :: h⟩ H ⟨l, h⟩ H := ⟨fun _ _ h => h, fun a o e n => ⟨e, fun z => by
    rcases z with z | z
    · exact n (.inl z)
    · exact n (.inr (List.mem_cons_of_mem _ z))⟩⟩
  exact ⟨⟨R.nd, R.len, fun i a w hi hw => (R.obj i a w hi hw).mv g rfl, fun a ha => R.hid a (List.mem_cons_of_mem _ ha)⟩, g⟩
/-- .. is of the memory -/
theorem Rep.reveal {p : Addr} {l h : List Addr} {xs : List D} {vs : List V} (R : Rep T ⟨l, p :: h⟩ H M) (hp : p ∉ h) (e : H p = some (.lst vs)) (hz : vs.length ≤ sizeLine) (r : RVs ⟨l, p :: h⟩ H xs vs) : Rep T ⟨l ++ [p], h⟩ H (M ++ [.lst xs]) := by
  have hpl : p ∉ l := (R.hid p (List.mem_cons_self ..)).2
  have g : Mv ⟨l, p :: h⟩ H ⟨l ++ [p], h⟩ H := ⟨fun i a q => by
    show (l ++ [p])[i]? = some a
    rw [List.getElem?_append_left (List.getElem?_eq_some_iff.mp q).1]; exact q, fun a o e n => ⟨e, fun z => by
    rcases z with z | z
    · rcases List.mem_append.mp z with z | z
      · exact n (.inl z)
      · exact n (.inr (by rw [List.mem_singleton.mp z]; exact List.mem_cons_self ..))
    · exact n (.inr (List.mem_cons_of_mem _ z))⟩⟩
  refine ⟨?_, by have := R.len; simp at this ⊢; exact this, fun i a w hi hw => ?_, fun a ha => ?_⟩
  · show (l ++ [p]).Nodup
    rw [List.nodup_append]
    refine ⟨R.nd, by simp, fun a ha b hb => ?_⟩
    rw [List.mem_singleton.mp hb]
    rintro rfl
    exact hpl ha
  · have hi : (l ++ [p])[i]? = some a := hi
    have hlen : l.length = M.length := R.len
    by_cases hlt : i < l.length
    · rw [List.getElem?_append_left hlt] at hi
      rw [List.getElem?_append_left (by rw [← hlen]; exact hlt)] at hw
      exact (R.obj i a w hi hw).mv g rfl
    · have hi' := (List.getElem?_eq_some_iff.mp hi).1
      simp at hi'
      have e' : i = l.length := by omega
      subst e'
      rw [List.getElem?_append_right (Nat.le_refl _)] at hi
      rw [hlen, List.getElem?_append_right (Nat.le_refl _)] at hw
      simp at hi hw
      subst hi hw
      exact ⟨vs, e, hz, RVs.mv g _ _ r⟩
  · obtain ⟨q, n⟩ := R.hid a (List.mem_cons_of_mem _ ha)
    refine ⟨q, fun z => ?_⟩
    rcases List.mem_append.mp z with z | z
    · exact n z
    · exact hp (List.mem_singleton.mp z ▸ ha)
/-! ### the items -/
theorem still_seq {ds : List D} {M0 : Mem} (h : still ds M0 M = true) {d : D} (hd : d ∈ ds) : seqOf M d = seqOf M0 d := by
  have q := List.all_eq_true.mp h d hd
  cases d with
  | ref n =>
    simp only [decide_eq_true_eq] at q
    simp only [seqOf, q]
  | _ => rfl
theorem items_still {k : ItK} {ds : List D} {M0 : Mem} (h : still ds M0 M = true) : items k ds M = items k ds M0 := by
  have key : ∀ d ∈ ds, seqOf M d = seqOf M0 d := fun d hd => still_seq h hd
  unfold items
  split
  · exact key _ (by simp)
  · rfl
  · rfl
  · rw [key _ (by simp), key _ (by simp)]
  · rw [key _ (by simp)]
  · rfl
/-- an item as it comes: a value, or a new pair -/
def RI (k : ItK) (μ : Mu) (H : Hp) (d : D) (v : V) : Prop := match k with
  | .seq => RV μ H d v
  | .range => RV μ H d v
  | .zip => ∃ a vs ds, v = .ref a ∧ d = .tup ds ∧ H a = some (.tup vs) ∧ RVs μ H ds vs
  | .enum => ∃ a vs ds, v = .ref a ∧ d = .tup ds ∧ H a = some (.tup vs) ∧ RVs μ H ds vs
structure Wk (T : Ad) (k : ItK) (ds : List D) (vs : List V) (xs : List D) (J : L2.It) : Prop where
  go : ∀ i μ H M, Rep T μ H M → RVs μ H ds vs → items k ds M = some xs → i < xs.length → J.go i H
  stop : ∀ μ H M, Rep T μ H M → RVs μ H ds vs → items k ds M = some xs → J.stop xs.length H
  yld : ∀ i μ H M v H', Rep T μ H M → RVs μ H ds vs → items k ds M = some xs → i < xs.length → J.yld i H v H' → Rep T μ H' M ∧ Grow μ H μ H' ∧ ∃ d, xs[i]? = some d ∧ RI k μ H' d v
theorem seq_L {K : PySem.W.Frag} (R : Rep T μ H M) {d : D} {v : V} {ds : List D} (r : RV μ H d v) (e : seqOf M d = some ds) (h : d.isT = false) : ∃ a vs, v = .ref a ∧ vs.length ≤ sizeLine ∧ RVs μ H ds vs ∧ SqL K H a vs := by
  obtain ⟨a, vs, e1, z, q, w⟩ := seq_rv R r e
  rcases w with ⟨o, w, _, e2⟩ | ⟨w, _⟩
  · subst e2; cases h
  · exact ⟨a, vs, e1, z, q, .inl w⟩
theorem seq_T {K : PySem.W.Frag} (R : Rep T μ H M) {d : D} {v : V} {ds : List D} (r : RV μ H d v) (e : seqOf M d = some ds) (h : d.isT = true) : ∃ a vs, v = .ref a ∧ vs.length ≤ sizeLine ∧ RVs μ H ds vs ∧ SqT K H a vs := by
  obtain ⟨a, vs, e1, z, q, w⟩ := seq_rv R r e
  rcases w with ⟨o, w, _, e2⟩ | ⟨w, e2 | ⟨n, e2, _⟩⟩
  · exact ⟨a, vs, e1, z, q, .inl (.inr ⟨o, w⟩)⟩
  · subst e2; cases h
  · subst e2; cases h
theorem wk_list {K : PySem.W.Frag} {d : D} {a : Addr} {xs : List D} (h : d.isT = false) : Wk T .seq [d] [.ref a] xs (Itl K a) := by
  have key : ∀ μ H M, Rep T μ H M → RVs μ H [d] [.ref a] → items .seq [d] M = some xs → ∃ vs, SqL K H a vs ∧ RVs μ H xs vs := fun μ H M R r e => by
    obtain ⟨x, r', e0, r1, _⟩ := r
    injection e0 with e0 e3
    subst e0
    obtain ⟨a', vs, e1, z, q, w⟩ := seq_L (K := K) R r1 e h
    cases e1
    exact ⟨vs, w, q⟩
  refine ⟨fun i μ H M R r e hi => ?_, fun μ H M R r e => ?_, fun i μ H M v H' R r e hi y => ?_⟩
  · obtain ⟨vs, w, q⟩ := key μ H M R r e
    have hi' : i < vs.length := by rw [← q.length]; exact hi
    exact ⟨vs, vs[i], w, by simp [hi']⟩
  · obtain ⟨vs, w, q⟩ := key μ H M R r e
    exact ⟨vs, w, by rw [q.length]; exact Nat.le_refl _⟩
  · obtain ⟨vs, w, q⟩ := key μ H M R r e
    obtain ⟨rfl, y⟩ := y
    have hx := y vs w
    obtain ⟨d', e1, r1⟩ := q.get' hx
    exact ⟨R, Grow.refl _ _, d', e1, r1⟩
theorem wk_tup {K : PySem.W.Frag} {d : D} {a : Addr} {xs : List D} (h : d.isT = true) : Wk T .seq [d] [.ref a] xs (Itt K a) := by
  have key : ∀ μ H M, Rep T μ H M → RVs μ H [d] [.ref a] → items .seq [d] M = some xs → ∃ vs, SqT K H a vs ∧ RVs μ H xs vs := fun μ H M R r e => by
    obtain ⟨x, r', e0, r1, _⟩ := r
    injection e0 with e0 e3
    subst e0
    obtain ⟨a', vs, e1, z, q, w⟩ := seq_T (K := K) R r1 e h
    cases e1
    exact ⟨vs, w, q⟩
  refine ⟨fun i μ H M R r e hi => ?_, fun μ H M R r e => ?_, fun i μ H M v H' R r e hi y => ?_⟩
  · obtain ⟨vs, w, q⟩ := key μ H M R r e
    have hi' : i < vs.length := by rw [← q.length]; exact hi
    exact ⟨vs, vs[i], w, by simp [hi']⟩
  · obtain ⟨vs, w, q⟩ := key μ H M R r e
    exact ⟨vs, w, by rw [q.length]; exact Nat.le_refl _⟩
  · obtain ⟨vs, w, q⟩ := key μ H M R r e
    obtain ⟨rfl, y⟩ := y
    have hx := y vs w
    obtain ⟨d', e1, r1⟩ := q.get' hx
    exact ⟨R, Grow.refl _ _, d', e1, r1⟩
theorem rng_length (a b : Int) : (rng a b).length = (b - a).toNat := by simp [rng]
theorem rng_get {a b : Int} {i : Nat} (h : i < (b - a).toNat) : (rng a b)[i]? = some (.int (a + (i : Nat))) := by
  simp [rng, h]
theorem wk_range {k : List D} {vs : List V} {a b : Int} : Wk T .range k vs (rng a b) (Itr a (b - a).toNat) := by
  refine ⟨fun i μ H M R r e hi => ?_, fun μ H M R r e => ?_, fun i μ H M v H' R r e hi y => ?_⟩
  · show i < (b - a).toNat
    rw [rng_length] at hi; exact hi
  · show (b - a).toNat ≤ _
    rw [rng_length]; exact Nat.le_refl _
  · obtain ⟨rfl, y⟩ := y
    rw [rng_length] at hi
    exact ⟨R, Grow.refl _ _, _, rng_get hi, y⟩
/-- a new pair -/
theorem pair_new (R : Rep T μ H M) {p : Addr} {x y : D} {v u : V} (hp : H p = none) (rx : RV μ H x v) (ry : RV μ H y u) : Rep T μ (upd H p (.tup [v, u])) M ∧ Grow μ H μ (upd H p (.tup [v, u])) ∧ ∃ a vs ds, V.ref p = .ref a ∧ D.tup [x, y] = .tup ds ∧ upd H p (.tup [v, u]) a = some (.tup vs) ∧ RVs μ (upd H p (.tup [v, u])) ds vs := by
  obtain ⟨R1, g, _⟩ := R.laid (u := .tup [v, u]) hp
  exact ⟨R1, g, p, [v, u], [x, y], rfl, rfl, upd_same, v, [u], rfl, RV.grow g _ _ rx, u, [], rfl, RV.grow g _ _ ry, rfl⟩
theorem enum_get {xs : List D} {i : Nat} {d : D} (h : xs[i]? = some d) : (xs.zipIdx.map fun p => D.tup [.int (p.2 : Nat), p.1])[i]? = some (.tup [.int (i : Nat), d]) := by
  rw [List.getElem?_map, List.getElem?_zipIdx, h]
  simp
theorem wk_enumL {K : PySem.W.Frag} {d : D} {a : Addr} {zs : List D} (h : d.isT = false) : Wk T .enum [d] [.ref a] zs (Ite K a) := by
  have key : ∀ μ H M, Rep T μ H M → RVs μ H [d] [.ref a] → items .enum [d] M = some zs → ∃ xs vs, SqL K H a vs ∧ RVs μ H xs vs ∧ zs = xs.zipIdx.map fun p => D.tup [.int (p.2 : Nat), p.1] := fun μ H M R r e => by
    obtain ⟨x, r', e0, r1, _⟩ := r
    injection e0 with e0 e3
    subst e0
    unfold items at e
    simp only at e
    cases e4 : seqOf M d with
    | none => rw [e4] at e; cases e
    | some xs =>
      rw [e4] at e
      obtain ⟨a', vs, e1, z, q, w⟩ := seq_L (K := K) R r1 e4 h
      cases e1
      exact ⟨xs, vs, w, q, (Option.some.inj e).symm⟩
  refine ⟨fun i μ H M R r e hi => ?_, fun μ H M R r e => ?_, fun i μ H M v H' R r e hi y => ?_⟩
  · obtain ⟨xs, vs, w, q, e1⟩ := key μ H M R r e
    have hi' : i < vs.length := by rw [← q.length]; rw [e1] at hi; simpa using hi
    exact ⟨vs, vs[i], w, by simp [hi']⟩
  · obtain ⟨xs, vs, w, q, e1⟩ := key μ H M R r e
    exact ⟨vs, w, by rw [← q.length, e1]; simp⟩
  · obtain ⟨xs, vs, w, q, e1⟩ := key μ H M R r e
    obtain ⟨p, x, rfl, hp, rfl, y⟩ := y
    have hx := y vs w
    obtain ⟨d', e2, r1⟩ := q.get' hx
    obtain ⟨R1, g, r2⟩ := pair_new R (x := .int (i : Nat)) (v := .int (i : Nat)) hp rfl r1
    exact ⟨R1, g, _, by rw [e1]; exact enum_get e2, r2⟩
theorem wk_enumT {K : PySem.W.Frag} {d : D} {a : Addr} {zs : List D} (h : d.isT = true) : Wk T .enum [d] [.ref a] zs (IteT K a) := by
  have key : ∀ μ H M, Rep T μ H M → RVs μ H [d] [.ref a] → items .enum [d] M = some zs → ∃ xs vs, SqT K H a vs ∧ RVs μ H xs vs ∧ zs = xs.zipIdx.map fun p => D.tup [.int (p.2 : Nat), p.1] := fun μ H M R r e => by
    obtain ⟨x, r', e0, r1, _⟩ := r
    injection e0 with e0 e3
    subst e0
    unfold items at e
    simp only at e
    cases e4 : seqOf M d with
    | none => rw [e4] at e; cases e
    | some xs =>
      rw [e4] at e
      obtain ⟨a', vs, e1, z, q, w⟩ := seq_T (K := K) R r1 e4 h
      cases e1
      exact ⟨xs, vs, w, q, (Option.some.inj e).symm⟩
  refine ⟨fun i μ H M R r e hi => ?_, fun μ H M R r e => ?_, fun i μ H M v H' R r e hi y => ?_⟩
  · obtain ⟨xs, vs, w, q, e1⟩ := key μ H M R r e
    have hi' : i < vs.length := by rw [← q.length]; rw [e1] at hi; simpa using hi
    exact ⟨vs, vs[i], w, by simp [hi']⟩
  · obtain ⟨xs, vs, w, q, e1⟩ := key μ H M R r e
    exact ⟨vs, w, by rw [← q.length, e1]; simp⟩
  · obtain ⟨xs, vs, w, q, e1⟩ := key μ H M R r e
    obtain ⟨p, x, rfl, hp, rfl, y⟩ := y
    have hx := y vs w
    obtain ⟨d', e2, r1⟩ := q.get' hx
    obtain ⟨R1, g, r2⟩ := pair_new R (x := .int (i : Nat)) (v := .int (i : Nat)) hp rfl r1
    exact ⟨R1, g, _, by rw [e1]; exact enum_get e2, r2⟩
theorem zip_items {d e : D} {zs : List D} (h : items .zip [d, e] M = some zs) : ∃ xs ys, seqOf M d = some xs ∧ seqOf M e = some ys ∧ d.isT = e.isT ∧ zs = List.zipWith (fun x y => D.tup [x, y]) xs ys := by
  unfold items at h
  simp only at h
  split at h
  · rename_i xs ys h1 h2
    split at h
    · rename_i h3
      exact ⟨xs, ys, h1, h2, eq_of_beq h3, (Option.some.inj h).symm⟩
    · cases h
  · cases h
theorem zip_get {xs ys : List D} {i : Nat} {x y : D} (h1 : xs[i]? = some x) (h2 : ys[i]? = some y) : (List.zipWith (fun x y => D.tup [x, y]) xs ys)[i]? = some (.tup [x, y]) := by
  rw [List.getElem?_zipWith, h1, h2]
theorem wk_zipL {K : PySem.W.Frag} {d e : D} {a b : Addr} {zs : List D} (hd : d.isT = false) : Wk T .zip [d, e] [.ref a, .ref b] zs (Itz K a b) := by
  have key : ∀ μ H M, Rep T μ H M → RVs μ H [d, e] [.ref a, .ref b] → items .zip [d, e] M = some zs → ∃ xs ys vs us, SqL K H a vs ∧ SqL K H b us ∧ RVs μ H xs vs ∧ RVs μ H ys us ∧ zs = List.zipWith (fun x y => D.tup [x, y]) xs ys := fun μ H M R r h => by
    obtain ⟨x, r', e0, r1, y, r'', e0', r2, _⟩ := r
    injection e0 with e0 e3
    subst e3
    injection e0' with e0' e3'
    subst e0 e0'
    obtain ⟨xs, ys, h1, h2, h3, h4⟩ := zip_items h
    obtain ⟨a', vs, e1, z, q, w⟩ := seq_L (K := K) R r1 h1 hd
    obtain ⟨b', us, e2, z2, q2, w2⟩ := seq_L (K := K) R r2 h2 (h3 ▸ hd)
    cases e1
    cases e2
    exact ⟨xs, ys, vs, us, w, w2, q, q2, h4⟩
  refine ⟨fun i μ H M R r e hi => ?_, fun μ H M R r e => ?_, fun i μ H M v H' R r e hi y => ?_⟩
  · obtain ⟨xs, ys, vs, us, w, w2, q, q2, e1⟩ := key μ H M R r e
    rw [e1, List.length_zipWith, q.length, q2.length] at hi
    have h1 : i < vs.length := by omega
    have h2 : i < us.length := by omega
    exact ⟨vs, us, vs[i], us[i], w, w2, by simp [h1], by simp [h2]⟩
  · obtain ⟨xs, ys, vs, us, w, w2, q, q2, e1⟩ := key μ H M R r e
    exact ⟨vs, us, w, w2, by rw [e1, List.length_zipWith, q.length, q2.length]; omega⟩
  · obtain ⟨xs, ys, vs, us, w, w2, q, q2, e1⟩ := key μ H M R r e
    obtain ⟨p, x, u, rfl, hp, rfl, y1, y2⟩ := y
    obtain ⟨d1, f1, r1⟩ := q.get' (y1 vs w)
    obtain ⟨d2, f2, r2⟩ := q2.get' (y2 us w2)
    obtain ⟨R1, g, r3⟩ := pair_new R hp r1 r2
    exact ⟨R1, g, _, by rw [e1]; exact zip_get f1 f2, r3⟩
theorem wk_zipT {K : PySem.W.Frag} {d e : D} {a b : Addr} {zs : List D} (hd : d.isT = true) : Wk T .zip [d, e] [.ref a, .ref b] zs (RZ.ItzT K a b) := by
  have key : ∀ μ H M, Rep T μ H M → RVs μ H [d, e] [.ref a, .ref b] → items .zip [d, e] M = some zs → ∃ xs ys vs us, SqT K H a vs ∧ SqT K H b us ∧ RVs μ H xs vs ∧ RVs μ H ys us ∧ zs = List.zipWith (fun x y => D.tup [x, y]) xs ys := fun μ H M R r h => by
    obtain ⟨x, r', e0, r1, y, r'', e0', r2, _⟩ := r
    injection e0 with e0 e3
    subst e3
    injection e0' with e0' e3'
    subst e0 e0'
    obtain ⟨xs, ys, h1, h2, h3, h4⟩ := zip_items h
    obtain ⟨a', vs, e1, z, q, w⟩ := seq_T (K := K) R r1 h1 hd
    obtain ⟨b', us, e2, z2, q2, w2⟩ := seq_T (K := K) R r2 h2 (h3 ▸ hd)
    cases e1
    cases e2
    exact ⟨xs, ys, vs, us, w, w2, q, q2, h4⟩
  refine ⟨fun i μ H M R r e hi => ?_, fun μ H M R r e => ?_, fun i μ H M v H' R r e hi y => ?_⟩
  · obtain ⟨xs, ys, vs, us, w, w2, q, q2, e1⟩ := key μ H M R r e
    rw [e1, List.length_zipWith, q.length, q2.length] at hi
    have h1 : i < vs.length := by omega
    have h2 : i < us.length := by omega
    exact ⟨vs, us, vs[i], us[i], w, w2, by simp [h1], by simp [h2]⟩
  · obtain ⟨xs, ys, vs, us, w, w2, q, q2, e1⟩ := key μ H M R r e
    exact ⟨vs, us, w, w2, by rw [e1, List.length_zipWith, q.length, q2.length]; omega⟩
  · obtain ⟨xs, ys, vs, us, w, w2, q, q2, e1⟩ := key μ H M R r e
    obtain ⟨p, x, u, rfl, hp, rfl, y1, y2⟩ := y
    obtain ⟨d1, f1, r1⟩ := q.get' (y1 vs w)
    obtain ⟨d2, f2, r2⟩ := q2.get' (y2 us w2)
    obtain ⟨R1, g, r3⟩ := pair_new R hp r1 r2
    exact ⟨R1, g, _, by rw [e1]; exact zip_get f1 f2, r3⟩
theorem items_len {k : ItK} {ds xs : List D} {vs : List V} (R : Rep T μ H M) (r : RVs μ H ds vs) (e : items k ds M = some xs) : xs.length ≤ sizeLine := by
  have key : ∀ d v xs, RV μ H d v → seqOf M d = some xs → xs.length ≤ sizeLine := fun d v xs r e => by
    obtain ⟨a, vs, _, z, q, _⟩ := seq_rv R r e
    rw [q.length]; exact z
  have hb := big_eq
  unfold items at e
  split at e
  · obtain ⟨x, r', rfl, r1, _⟩ := r
    exact key _ _ _ r1 e
  · split at e
    · rename_i h
      cases e
      rw [rng_length, ← hb]
      have := h.2
      omega
    · cases e
  · split at e
    · rename_i h
      cases e
      rw [rng_length, ← hb]
      have := h.2.2.2.2
      omega
    · cases e
  · obtain ⟨x, r', rfl, r1, y, r'', rfl, r2, _⟩ := r
    split at e
    · rename_i h1 h2
      split at e
      · cases e
        rw [List.length_zipWith]
        have := key _ _ _ r1 h1
        omega
      · cases e
    · cases e
  · obtain ⟨x, r', rfl, r1, _⟩ := r
    split at e
    · rename_i h1
      cases e
      simpa using key _ _ _ r1 h1
    · cases e
  · cases e
end
/-- a target takes an item -/
theorem asgI_ok {K : PySem.W.Frag} {k : ItK} {μ : Mu} {H : Hp} (t : Tg) {d : D} {v : V} {σ : L2.St} {ρ ρ' : Env} {Q : L2.St → Hp → Prop} (e : asg t d ρ = some ρ') (E : REnv μ H σ ρ) (r : RI k μ H d v) (ht : k = .zip ∨ k = .enum → ∃ ts, t = .tup ts) (q : ∀ σ', REnv μ H σ' ρ' → Kept σ σ' t → Q σ' H) : gOf K t v σ H Q := by
  have key : (∃ a vs ds, v = .ref a ∧ d = .tup ds ∧ H a = some (.tup vs) ∧ RVs μ H ds vs) → (∃ ts, t = .tup ts) → gOf K t v σ H Q := fun ⟨a, vs, ds, e1, e2, h, rv⟩ ⟨ts, e3⟩ => by
    subst e1 e2 e3
    simp only [asg] at e
    simp only [gOf]
    refine ⟨a, vs, rfl, .inl (.inl h), ?_, asgL_ok ts ds vs σ ρ ρ' Q e E rv fun σ' E' kk => q σ' E' kk⟩
    rw [← rv.length]
    exact asgL_len e
  cases k with
  | seq => exact asg_ok t d v σ ρ ρ' Q e E r q
  | range => exact asg_ok t d v σ ρ ρ' Q e E r q
  | zip => exact key r (ht (.inl rfl))
  | enum => exact key r (ht (.inr rfl))
section
variable {W : Wd} {n : Nat} {Wx : WX} {X : Cx} {c : Cs} {tg it : Expr} {es : List Expr} {src : E}
/-- what is walked -/
def iSrc (W : Wd) (n : Nat) (Wx : WX) (k : ItK) (src : E) : TI := fun σ H R => ∃ μ ρ M, Rep W.T μ H M ∧ REnv μ H σ ρ ∧ Post W Wx σ μ H (fun ds M1 => ∃ xs, items k ds M1 = some xs ∧ ∀ μ1 H1 vs J, Grow μ H μ1 H1 → Rep W.T μ1 H1 M1 → RVs μ1 H1 ds vs → Wk W.T k ds vs xs J → R J H1) (W.evL n src ρ M)
theorem _root_.L2.PI.weak {X : Cx} {tg e : Expr} {t t' : TI} (h : PI X tg e t) (w : ∀ σ H Q, t' σ H Q → t σ H Q) : PI X tg e t' := ⟨fun pins s σ H Q I q => h.run pins s σ H Q I (w _ _ _ q)⟩
theorem src_tL {k : ItK} {σ : L2.St} {H : Hp} {R : L2.It → Hp → Prop} {Q : List V → Hp → Prop} (q : iSrc W n Wx k src σ H R)
    (w : ∀ ds M1 xs μ1 H1 vs, items k ds M1 = some xs → Rep W.T μ1 H1 M1 → RVs μ1 H1 ds vs → (∀ J, Wk W.T k ds vs xs J → R J H1) → Q vs H1) : tL W n Wx src σ H Q := by
  obtain ⟨μ, ρ, M, Rp, E, q⟩ := q
  refine ⟨μ, ρ, M, Rp, E, q.mono fun ds M1 _ ⟨xs, e, f⟩ vs μ1 H1 g R1 r => w ds M1 xs μ1 H1 vs e R1 r fun J wk => f μ1 H1 vs J g R1 r wk⟩
theorem items_seq1 {ds xs : List D} {M : Mem} (h : items .seq ds M = some xs) : ∃ d, ds = [d] ∧ seqOf M d = some xs := by
  unfold items at h
  split at h
  · exact ⟨_, rfl, h⟩
  all_goals first | contradiction | skip
  all_goals (rename_i h1 _; cases h1)
theorem src_seq (ha : ∀ a, src = .cons a .nil → PE X it (tD W n Wx a)) (hs : ∃ a, src = .cons a .nil) : PI X tg it (iSrc W n Wx .seq src) := by
  obtain ⟨a, rfl⟩ := hs
  refine (pi_seqA (ha a rfl)).weak fun σ H R q => ?_
  obtain ⟨μ, ρ, M, Rp, E, q⟩ := q
  refine ⟨μ, ρ, M, Rp, E, ?_⟩
  have e0 : W.evL n (.cons a .nil) ρ M = (W.ev n a ρ M).bind fun d M => .ok [d] M := by
    simp only [Wd.evL, evalL, Wd.ev]
    rfl
  rw [e0] at q
  refine q.bind fun d M1 _ ⟨xs, e, f⟩ v μ1 H1 g R1 r => ?_
  have r' : RVs μ1 H1 [d] [v] := RVs.one r
  cases ht : d.isT with
  | false =>
    obtain ⟨b, vs, rfl, z, q, w⟩ := seq_L (K := X.K) R1 r e ht
    exact .inl ⟨b, rfl, ⟨vs, w⟩, f μ1 H1 _ _ g R1 r' (wk_list ht)⟩
  | true =>
    obtain ⟨b, vs, rfl, z, q, w⟩ := seq_T (K := X.K) R1 r e ht
    exact .inr ⟨b, rfl, ⟨vs, w⟩, f μ1 H1 _ _ g R1 r' (wk_tup ht)⟩
end
end MP

/-! Mp2k: sources, comprehensions. -/
namespace MP
open PySem PySem.Spec PyProof.Rows L2
section
variable {W : Wd} {n : Nat} {Wx : WX} {X : Cx} {c : Cs} {tg it y z : Expr} {es : List Expr} {src : E} {p pos tpos : Pos}
theorem items_rng {ds xs : List D} {M : Mem} (h : items .range ds M = some xs) : (∃ k : Int, ds = [.int k] ∧ -(2 ^ 62) ≤ k ∧ k ≤ big ∧ xs = rng 0 k) ∨ ∃ a b : Int, ds = [.int a, .int b] ∧ -(2 ^ 62) ≤ a ∧ a < 2 ^ 62 ∧ -(2 ^ 62) ≤ b ∧ b < 2 ^ 62 ∧ xs = rng a b := by
  unfold items at h
  split at h
  · contradiction
  · split at h
    · rename_i q
      exact .inl ⟨_, rfl, q.1, q.2, (Option.some.inj h).symm⟩
    · cases h
  · split at h
    · rename_i q
      exact .inr ⟨_, _, rfl, q.1, q.2.1, q.2.2.1, q.2.2.2.1, (Option.some.inj h).symm⟩
    · cases h
  · contradiction
  · contradiction
  · cases h
theorem items_enum {ds xs : List D} {M : Mem} (h : items .enum ds M = some xs) : ∃ d zs, ds = [d] ∧ seqOf M d = some zs := by
  unfold items at h
  split at h
  · contradiction
  · contradiction
  · contradiction
  · contradiction
  · split at h
    · exact ⟨_, _, rfl, by assumption⟩
    · cases h
  · cases h
theorem items_zip2 {ds xs : List D} {M : Mem} (h : items .zip ds M = some xs) : ∃ d e, ds = [d, e] := by
  unfold items at h
  split at h
  · contradiction
  · contradiction
  · contradiction
  · exact ⟨_, _, rfl⟩
  · contradiction
  · cases h
theorem src_range1 (hg : Gl X "range") (hm : X.mg "range" = none) (hs : starB y = false) (ha : PA X [y] (tL W n Wx src)) (hl : ∀ ρ M ds M1, W.evL n src ρ M = .ok ds M1 → ds.length = 1) : PI X tg (.Call (.Name "range" p) [y] [] pos) (iSrc W n Wx .range src) := by
  refine (pi_range1 hg hm ha (by rw [star_of hs]; rfl)).weak fun σ H R q => ?_
  obtain ⟨μ, ρ, M, Rp, E, q⟩ := q
  refine ⟨μ, ρ, M, Rp, E, q.mono fun ds M1 e0 ⟨xs, e, f⟩ vs μ1 H1 g R1 r => ?_⟩
  have hlen := hl _ _ _ _ e0
  rcases items_rng e with ⟨k, rfl, h1, h2, rfl⟩ | ⟨a, b, rfl, _⟩
  · obtain ⟨v, r', rfl, rfl, rfl⟩ := r
    have hb : big = 16777216 := rfl
    refine ⟨k, rfl, h1, by omega, ?_⟩
    have := f μ1 H1 [.int k] (Itr 0 (k - 0).toNat) g R1 ⟨_, _, rfl, rfl, rfl⟩ wk_range
    rw [Int.sub_zero] at this
    exact this
  · cases hlen
theorem src_range2 (hg : Gl X "range") (hm : X.mg "range" = none) (hs : starB y = false) (hs2 : starB z = false) (ha : PA X [y, z] (tL W n Wx src)) (hl : ∀ ρ M ds M1, W.evL n src ρ M = .ok ds M1 → ds.length = 2) : PI X tg (.Call (.Name "range" p) [y, z] [] pos) (iSrc W n Wx .range src) := by
  refine (pi_range2 hg hm ha (by rw [star_of hs, star_of hs2]; rfl) (by rw [star_of hs2]; rfl)).weak fun σ H R q => ?_
  obtain ⟨μ, ρ, M, Rp, E, q⟩ := q
  refine ⟨μ, ρ, M, Rp, E, q.mono fun ds M1 e0 ⟨xs, e, f⟩ vs μ1 H1 g R1 r => ?_⟩
  have hlen := hl _ _ _ _ e0
  rcases items_rng e with ⟨k, rfl, _⟩ | ⟨a, b, rfl, h1, h2, h3, h4, rfl⟩
  · cases hlen
  · obtain ⟨v, r', rfl, rfl, v', r'', rfl, rfl, rfl⟩ := r
    exact ⟨a, b, rfl, ⟨h1, h2, h3, h4⟩, f μ1 H1 _ (Itr a (b - a).toNat) g R1 ⟨_, _, rfl, rfl, _, _, rfl, rfl, rfl⟩ wk_range⟩
theorem src_enum {elts : List Expr} {kk : Nat} (hg : Gl X "enumerate") (hm : X.mg "enumerate" = none) (hs : starB y = false) (ha : PA X [y] (tL W n Wx src)) : PI X (.Tuple elts kk tpos) (.Call (.Name "enumerate" p) [y] [] pos) (iSrc W n Wx .enum src) := by
  refine (pi_enumA hg hm ha (by rw [star_of hs]; rfl)).weak fun σ H R q => ?_
  obtain ⟨μ, ρ, M, Rp, E, q⟩ := q
  refine ⟨μ, ρ, M, Rp, E, q.mono fun ds M1 e0 ⟨xs, e, f⟩ vs μ1 H1 g R1 r => ?_⟩
  obtain ⟨d, zs, rfl, hz⟩ := items_enum e
  have r0 := r
  obtain ⟨v, r', rfl, r1, rfl⟩ := r
  cases ht : d.isT with
  | false =>
    obtain ⟨b, us, rfl, z, q, w⟩ := seq_L (K := X.K) R1 r1 hz ht
    exact ⟨b, us, rfl, .inl ⟨w, f μ1 H1 _ _ g R1 r0 (wk_enumL ht)⟩⟩
  | true =>
    obtain ⟨b, us, rfl, z, q, w⟩ := seq_T (K := X.K) R1 r1 hz ht
    exact ⟨b, us, rfl, .inr ⟨w, f μ1 H1 _ _ g R1 r0 (wk_enumT ht)⟩⟩
theorem src_zip {elts : List Expr} {kk : Nat} (hg : Gl X "zip") (hm : X.mg "zip" = none) (hs : starB y = false) (hs2 : starB z = false) (ha : PA X [y, z] (tL W n Wx src)) : PI X (.Tuple elts kk tpos) (.Call (.Name "zip" p) [y, z] [] pos) (iSrc W n Wx .zip src) := by
  refine (RZ.pi_zipA hg hm ha (by rw [star_of hs]) (by rw [star_of hs2]; rfl)).weak fun σ H R q => ?_
  obtain ⟨μ, ρ, M, Rp, E, q⟩ := q
  refine ⟨μ, ρ, M, Rp, E, q.mono fun ds M1 e0 ⟨xs, e, f⟩ vs μ1 H1 g R1 r => ?_⟩
  obtain ⟨d, d', rfl⟩ := items_zip2 e
  obtain ⟨zs, zs', h1, h2, h3, h4⟩ := zip_items e
  have r0 := r
  obtain ⟨v, r', rfl, r1, v', r'', rfl, r2, rfl⟩ := r
  cases ht : d.isT with
  | false =>
    obtain ⟨b, us, rfl, z, q, w⟩ := seq_L (K := X.K) R1 r1 h1 ht
    obtain ⟨b', us', rfl, z', q', w'⟩ := seq_L (K := X.K) R1 r2 h2 (h3 ▸ ht)
    exact ⟨b, b', us, us', rfl, .inl ⟨w, w', f μ1 H1 _ _ g R1 r0 (wk_zipL ht)⟩⟩
  | true =>
    obtain ⟨b, us, rfl, z, q, w⟩ := seq_T (K := X.K) R1 r1 h1 ht
    obtain ⟨b', us', rfl, z', q', w'⟩ := seq_T (K := X.K) R1 r2 h2 (h3 ▸ ht)
    exact ⟨b, b', us, us', rfl, .inr ⟨w, w', f μ1 H1 _ _ g R1 r0 (wk_zipT ht)⟩⟩
def E.cnt : E → Nat
  | .cons _ as => as.cnt + 1
  | _ => 0
theorem evL_len : ∀ (a : E) (ρ : Env) (M : Mem) (ds : List D) (M1 : Mem), W.evL n a ρ M = .ok ds M1 → ds.length = a.cnt := by
  intro a
  induction a with
  | nil => intro ρ M ds M1 h; cases h; rfl
  | cons a as _ ih =>
    intro ρ M ds M1 h
    simp only [Wd.evL, evalL] at h
    cases e : eval W.P.gl (callF W.P n) a ρ M with
    | ok d M2 =>
      rw [e] at h
      simp only [MP.R.bind_ok] at h
      cases e2 : evalL W.P.gl (callF W.P n) as ρ M2 with
      | ok ds2 M3 =>
        rw [e2] at h
        injection h with h1 h2
        rw [← h1, List.length_cons, E.cnt, ih _ _ _ _ e2]
      | exc _ _ => rw [e2] at h; cases h
      | stuck => rw [e2] at h; cases h
    | exc _ _ => rw [e] at h; cases h
    | stuck => rw [e] at h; cases h
  | _ => intro ρ M ds M1 h; simp only [Wd.evL, evalL] at h; cases h
theorem mEs_cnt {T : Tab} : ∀ (as : E) (c : Cs) (es : List Expr), mEs T as c es = true → as.cnt = es.length := by
  intro as
  induction as with
  | nil => intro c es h; cases es with
    | nil => rfl
    | cons _ _ => simp only [mEs] at h; cases h
  | cons a as _ ih => intro c es h; cases es with
    | nil => simp only [mEs] at h; cases h
    | cons e es => simp only [mEs, Bool.and_eq_true] at h; rw [E.cnt, ih c es h.2, List.length_cons]
  | _ => intro c es h; simp only [mEs] at h; cases h
/-- the source, by its kind -/
theorem src_ok (O : W.Ok n) (C : Conf W n X c) {k : ItK} (h : itArgs k c tg it = some es) (hm : mEs W.tb src c es = true) (ha : PA X es (tL W n Wx src)) (h1 : ∀ a, src = .cons a .nil → ∃ e, es = [e] ∧ PE X e (tD W n Wx a)) : PI X tg it (iSrc W n Wx k src) := by
  have hc := mEs_cnt _ _ _ hm
  have hst := mEs_stars hm
  have hl : ∀ ρ M ds M1, W.evL n src ρ M = .ok ds M1 → ds.length = es.length := fun ρ M ds M1 e => by rw [evL_len _ _ _ _ _ e, hc]
  cases k with
  | seq =>
    have he : es = [it] := by
      unfold itArgs at h
      simp only at h
      split at h
      · cases h
      · exact (Option.some.inj h).symm
    subst he
    have hsrc : ∃ a, src = .cons a .nil := by
      cases src <;> simp only [mEs] at hm <;> first | (cases hm; done) | skip
      rename_i a as
      simp only [Bool.and_eq_true] at hm
      cases as <;> simp only [mEs] at hm <;> first | exact ⟨a, rfl⟩ | (obtain ⟨_, hm⟩ := hm; cases hm; done)
    refine src_seq (fun a e => ?_) hsrc
    obtain ⟨e', e1, e2⟩ := h1 a e
    cases e1
    exact e2
  | range =>
    unfold itArgs at h
    simp only at h
    split at h
    · rename_i x _ y es' _
      split at h
      · rename_i hq
        simp only [Bool.and_eq_true, decide_eq_true_eq] at hq
        obtain ⟨⟨rfl, hg⟩, hlen⟩ := hq
        obtain rfl := (Option.some.inj h)
        have hg' := (glB_ok C hg).1
        have hmg : X.mg "range" = none := by rw [C.mg]; exact O.blt _ (by decide +kernel)
        simp only [List.all_cons, Bool.and_eq_true, Bool.not_eq_true'] at hst
        cases es' with
        | nil => exact src_range1 hg' hmg hst.1 ha hl
        | cons z r =>
          cases r with
          | nil =>
            have h2 := hst.2
            simp only [List.all_cons, Bool.and_eq_true, Bool.not_eq_true'] at h2
            exact src_range2 hg' hmg hst.1 h2.1 ha hl
          | cons _ _ => simp only [List.length_cons] at hlen; omega
      · cases h
    · cases h
  | zip =>
    unfold itArgs at h
    simp only at h
    split at h
    · split at h
      · split at h
        · rename_i hq
          simp only [Bool.and_eq_true, decide_eq_true_eq] at hq
          obtain ⟨rfl, hg⟩ := hq
          obtain rfl := (Option.some.inj h)
          simp only [List.all_cons, Bool.and_eq_true, Bool.not_eq_true'] at hst
          exact src_zip (glB_ok C hg).1 (by rw [C.mg]; exact O.blt _ (by decide +kernel)) hst.1 hst.2.1 ha
        · cases h
      · cases h
    · cases h
  | enum =>
    unfold itArgs at h
    simp only at h
    split at h
    · split at h
      · split at h
        · rename_i hq
          simp only [Bool.and_eq_true, decide_eq_true_eq] at hq
          obtain ⟨rfl, hg⟩ := hq
          obtain rfl := (Option.some.inj h)
          simp only [List.all_cons, Bool.and_eq_true, Bool.not_eq_true'] at hst
          exact src_enum (glB_ok C hg).1 (by rw [C.mg]; exact O.blt _ (by decide +kernel)) hst.1 ha
        · cases h
      · cases h
    · cases h
/-- a pair comes to a tuple of targets -/
theorem it_tup {k : ItK} {t : Tg} {c' : Cs} (h : itArgs k c tg it = some es) (ht : mTg c' t tg = true) : k = .zip ∨ k = .enum → ∃ ts, t = .tup ts := fun hk => by
  have : ∃ a b d, tg = .Tuple a b d := by
    rcases hk with rfl | rfl <;> (unfold itArgs at h; simp only at h; split at h <;> first | (cases h; done) | skip; split at h <;> first | (cases h; done) | exact ⟨_, _, _, rfl⟩)
  obtain ⟨a, b, d, rfl⟩ := this
  cases t with
  | tup ts => exact ⟨ts, rfl⟩
  | _ => simp only [mTg] at ht; cases ht
theorem noSet {k : ItK} (h : itArgs k c tg it = some es) : ∀ x, foldedSetIterable it X.env x = pure x := fun x => by
  have key : ∀ a b d, it ≠ .Set a b d := fun a b d e => by
    subst e
    cases k <;> (unfold itArgs at h; simp only at h; cases h)
  unfold foldedSetIterable
  split
  · exact absurd rfl (key _ _ _)
  · rfl
abbrev WxF : WX := fun _ _ _ _ => False
/-- the turns of a comprehension -/
def compG (W : Wd) (n : Nat) (t : Tg) (cd el : E) (ρw : Env) : D → Mem → R (Option D) := fun x M => match asg t x ρw with
  | some ρ' => (if cd.isNil then .ok true M else (W.ev n cd ρ' M).bind toTest).bind fun b M => if b then (W.ev n el ρ' M).bind fun d M => .ok (some d) M else .ok none M
  | none => .stuck
def tC2 (W : Wd) (n : Nat) (cd : E) : TT := if cd.isNil then tYes else tT W n WxF cd
theorem lc_ok {K : PySem.W.Frag} {m : Bool} {own : List Nat} {t : Tg} {k : ItK} {cd el : E} {σ : L2.St} {Q : VK} {μ1 : Mu} {H1 : Hp} {M1 : Mem} {ρ : Env} {ds xs : List D} {vs : List V} {J : L2.It} {p : Addr}
    (R1 : Rep W.T μ1 H1 M1) (E1 : REnv μ1 H1 σ ρ) (r1 : RVs μ1 H1 ds vs) (wk : Wk W.T k ds vs xs J) (he : items k ds M1 = some xs) (ht : k = .zip ∨ k = .enum → ∃ ts, t = .tup ts) (hown : ∀ i ∈ t.slots, i ∈ own) (hp : H1 p = none)
    (q : PostE W Wx σ μ1 H1 Q ((compL ds M1 (compG W n t cd el (MP.wipe ρ own)) xs [] M1).bind fun ys M => newL m ys M)) :
    ∃ Wi : Nat → Nat → Hp → Prop, (∃ m, Wi 0 m (upd H1 p (.lst []))) ∧ ∀ i m H, Wi i m H →
      (J.stop i H ∧ Q (.ref p) H) ∨ (J.go i H ∧ ∃ Nx : Hp → Prop, (∀ H', Nx H' → ∃ m', m' < m ∧ Wi (i + 1) m' H') ∧ ∀ x H', J.yld i H x H' → gOf K t x (L2.wipe σ own) H' fun σ2 H2 => L2.wipe σ2 own = L2.wipe σ own ∧ tC2 W n cd σ2 H2 fun b H3 =>
        if b = true then tD W n WxF el σ2 H3 fun y H4 => ∃ acc, H4 p = some (.lst acc) ∧ acc.length < sizeLine ∧ Nx (upd H4 p (.lst (acc ++ [y]))) else Nx H3) := by
  have hxs := items_len R1 r1 he
  have hph : p ∉ μ1.h := fun z => R1.fresh hp (.inr z)
  -- what holds at each turn
  let Pv : Nat → Hp → Prop := fun i H => ∃ (l : List Addr) (M : Mem) (acc : List D) (us : List V), Grow μ1 H1 ⟨l, μ1.h⟩ H ∧ Rep W.T ⟨l, p :: μ1.h⟩ H M ∧ H p = some (.lst us) ∧ RVs ⟨l, p :: μ1.h⟩ H acc us ∧ acc.length ≤ i ∧
    PostE W Wx σ μ1 H1 Q ((compL ds M1 (compG W n t cd el (MP.wipe ρ own)) (xs.drop i) acc M).bind fun ys M => newL m ys M)
  have mvOf : ∀ l H, Grow μ1 H1 ⟨l, μ1.h⟩ H → Mv μ1 H1 ⟨l, p :: μ1.h⟩ H := fun l H g => ⟨fun i a h => g.get h, fun a o h nh => by
    have hap : a ≠ p := ne_of_none h hp
    refine ⟨g.kp h nh, fun z => ?_⟩
    rcases z with z | z
    · exact g.notin h nh (.inl z)
    · rcases List.mem_cons.mp z with z | z
      · exact hap z
      · exact nh (.inr z)⟩
  have growOn : ∀ l H μ' H', Grow μ1 H1 ⟨l, μ1.h⟩ H → Grow ⟨l, p :: μ1.h⟩ H μ' H' → ∃ l', μ' = ⟨l', p :: μ1.h⟩ ∧ Grow μ1 H1 ⟨l', μ1.h⟩ H' := fun l H μ' H' g g' => by
    refine ⟨μ'.l, by have := g'.hid; cases μ'; simp at this; rw [this], ?_⟩
    obtain ⟨ν, e⟩ := g.pre
    obtain ⟨ν', e'⟩ := g'.pre
    have nin : ∀ a o, H1 a = some o → a ∉ μ1.l → a ∉ l := fun a o h nn z => by rw [g.new a z nn] at h; cases h
    refine ⟨⟨ν ++ ν', by rw [show (Mu.mk μ'.l μ1.h).l = μ'.l from rfl, e', show (Mu.mk l (p :: μ1.h)).l = l from rfl, show l = μ1.l ++ ν from e]; simp⟩, rfl, fun b hb hn => ?_, fun a o h nn => g'.keep _ _ (g.keep _ _ h nn) (nin a o h nn)⟩
    by_cases hq : b ∈ l
    · exact g.new b hq hn
    · have h1 := g'.new b hb hq
      cases q : H1 b with
      | none => rfl
      | some o =>
        rw [g.keep b o q hn] at h1
        cases h1
  refine ⟨fun i m H => m = xs.length - i ∧ i ≤ xs.length ∧ Pv i H, ⟨xs.length, by simp, Nat.zero_le _, ?_⟩, ?_⟩
  · obtain ⟨Rh, mh⟩ := R1.hide (u := .lst []) hp
    refine ⟨μ1.l, M1, [], [], ?_, Rh, upd_same, rfl, Nat.le_refl _, q⟩
    exact ⟨⟨[], by simp⟩, rfl, fun b hb hn => absurd hb hn, fun a o h _ => by rw [upd_ne (ne_of_none h hp)]; exact h⟩
  · rintro i m' H ⟨rfl, hi, l, M, acc, us, g, R, hD, ra, hacc, qq⟩
    have hpl : p ∉ l := (R.hid p (List.mem_cons_self ..)).2
    have rds : RVs ⟨l, p :: μ1.h⟩ H ds vs := RVs.mv (mvOf l H g) _ _ r1
    by_cases hlt : i < xs.length
    · rw [List.drop_eq_getElem_cons hlt] at qq
      unfold compL at qq
      cases hst : still ds M1 M with
      | false => rw [hst] at qq; exact qq.elim
      | true =>
        rw [hst] at qq
        simp only [if_true] at qq
        have he' : items k ds M = some xs := by rw [items_still hst]; exact he
        refine .inr ⟨wk.go i _ H M R rds he' hlt, Pv (i + 1), fun H' pv => ⟨xs.length - (i + 1), by omega, rfl, hlt, pv⟩, fun x H' yl => ?_⟩
        obtain ⟨R2, g2, d, hd, ri⟩ := wk.yld i _ H M x H' R rds he' hlt yl
        have hd' : xs[i] = d := by
          rw [List.getElem?_eq_getElem hlt] at hd
          exact Option.some.inj hd
        rw [hd'] at qq
        obtain ⟨l2, e2, gg2⟩ := growOn l H _ H' g g2
        cases e2
        have hD2 : H' p = some (.lst us) := g2.keep _ _ hD hpl
        have ra2 := RVs.grow g2 _ _ ra
        have Ew : REnv ⟨l, p :: μ1.h⟩ H' (L2.wipe σ own) (MP.wipe ρ own) := REnv.mv (mvOf l H' gg2) (E1.wipe own)
        cases ea : asg t d (MP.wipe ρ own) with
        | none =>
          simp only [compG, ea] at qq
          exact qq.elim
        | some ρ' =>
          simp only [compG, ea] at qq
          refine asgI_ok t ea Ew ri ht fun σ2 E2 kk => ?_
          refine ⟨by rw [wipe_kept kk hown, wipe_wipe], ?_⟩
          -- the rest of a turn, behind the test
          have rest : ∀ b M3 l3 H3, Grow μ1 H1 ⟨l3, μ1.h⟩ H3 → Rep W.T ⟨l3, p :: μ1.h⟩ H3 M3 → REnv ⟨l3, p :: μ1.h⟩ H3 σ2 ρ' → H3 p = some (.lst us) → RVs ⟨l3, p :: μ1.h⟩ H3 acc us →
              PostE W Wx σ μ1 H1 Q ((match (if b then (W.ev n el ρ' M3).bind fun d M => MP.R.ok (some d) M else .ok none M3 : MP.R (Option D)) with
                | .ok (some d) M' => compL ds M1 (compG W n t cd el (MP.wipe ρ own)) (xs.drop (i + 1)) (acc ++ [d]) M'
                | .ok none M' => compL ds M1 (compG W n t cd el (MP.wipe ρ own)) (xs.drop (i + 1)) acc M'
                | _ => .stuck).bind fun ys M => newL m ys M) →
              (if b = true then tD W n WxF el σ2 H3 fun y H4 => ∃ acc, H4 p = some (.lst acc) ∧ acc.length < sizeLine ∧ Pv (i + 1) (upd H4 p (.lst (acc ++ [y]))) else Pv (i + 1) H3) := by
            intro b M3 l3 H3 g3 R3 E3 hD3 ra3 q3
            cases b with
            | false =>
              simp only [Bool.false_eq_true, if_false] at q3 ⊢
              exact ⟨l3, M3, acc, us, g3, R3, hD3, ra3, by omega, q3⟩
            | true =>
              simp only [if_true] at q3 ⊢
              refine ⟨_, ρ', M3, R3, E3, ?_⟩
              cases ee : W.ev n el ρ' M3 with
              | stuck => rw [ee] at q3; exact q3.elim
              | exc _ _ => rw [ee] at q3; exact q3.elim
              | ok d4 M4 =>
                rw [ee] at q3
                simp only [MP.R.bind_ok] at q3
                intro y μ4 H4 g4 R4 ry
                obtain ⟨l4, e4, gg4⟩ := growOn l3 H3 μ4 H4 g3 g4
                cases e4
                have hpl3 : p ∉ l3 := (R3.hid p (List.mem_cons_self ..)).2
                have hD4 : H4 p = some (.lst us) := g4.keep _ _ hD3 hpl3
                have hlen := ra.length
                refine ⟨us, hD4, by omega, ?_⟩
                obtain ⟨R5, m5⟩ := R4.fill (p := p) (u := .lst (us ++ [y])) (List.mem_cons_self ..)
                refine ⟨l4, M4, acc ++ [d4], us ++ [y], ?_, R5, upd_same, RVs.mv m5 _ _ ((RVs.grow g4 _ _ ra3).append (RVs.one ry)), by simp; omega, q3⟩
                exact ⟨gg4.pre, rfl, gg4.new, fun a o h nn => by rw [upd_ne (ne_of_none h hp)]; exact gg4.keep a o h nn⟩
          unfold tC2
          cases hc : cd.isNil with
          | true =>
            rw [hc] at qq
            simp only [if_true, MP.R.bind_ok] at qq ⊢
            exact rest true M l H' gg2 R2 E2 hD2 ra2 qq
          | false =>
            rw [hc] at qq
            simp only [Bool.false_eq_true, if_false] at qq ⊢
            refine ⟨_, ρ', M, R2, E2, ?_⟩
            cases et : (W.ev n cd ρ' M).bind toTest with
            | stuck => rw [et] at qq; exact qq.elim
            | exc _ _ => rw [et] at qq; exact qq.elim
            | ok b M3 =>
              rw [et] at qq
              simp only [MP.R.bind_ok] at qq
              intro μ3 H3 g3 R3
              obtain ⟨l3, e3, gg3⟩ := growOn l H' μ3 H3 gg2 g3
              cases e3
              exact rest b M3 l3 H3 gg3 R3 (E2.grow g3) (g3.keep _ _ hD2 hpl) (RVs.grow g3 _ _ ra2) qq
    · have hi' : i = xs.length := by omega
      subst hi'
      rw [List.drop_length] at qq
      unfold compL at qq
      cases hst : still ds M1 M with
      | false => rw [hst] at qq; exact qq.elim
      | true =>
        rw [hst] at qq
        simp only [if_true, MP.R.bind_ok] at qq
        have he' : items k ds M = some xs := by rw [items_still hst]; exact he
        refine .inl ⟨wk.stop _ H M R rds he', ?_⟩
        have hlen := ra.length
        unfold newL at qq
        cases m with
        | true =>
          simp only [if_true] at qq
          refine qq (.ref p) ⟨l ++ [p], μ1.h⟩ H ?_ (R.reveal hph hD (by omega) ra) ⟨p, rfl, by rw [← R.len]; simp⟩
          obtain ⟨ν, e⟩ := g.pre
          refine ⟨⟨ν ++ [p], by rw [show (Mu.mk (l ++ [p]) μ1.h).l = l ++ [p] from rfl, show l = μ1.l ++ ν from e]; simp⟩, rfl, fun b hb hn => ?_, g.keep⟩
          rcases List.mem_append.mp hb with hb | hb
          · exact g.new b hb hn
          · rw [List.mem_singleton.mp hb]; exact hp
        | false =>
          simp only [Bool.false_eq_true, if_false] at qq
          obtain ⟨R5, m5⟩ := R.show
          refine qq (.ref p) ⟨l, μ1.h⟩ H g R5 ⟨p, us, rfl, fun z => ?_, .inl hD, by omega, RVs.mv m5 _ _ ra⟩
          rcases z with z | z
          · exact hpl z
          · exact hph z
end
end MP

/-! Mp2l: every expression that the matcher knows. -/
namespace MP
open PySem PySem.Spec PyProof.Rows L2
def E.isAO : E → Bool
  | .and _ _ => true
  | .or _ _ => true
  | _ => false
section
variable {W : Wd} {n : Nat} {Wx : WX} {X : Cx} {c : Cs}
theorem Conf.blk (C : Conf W n X c) (s : Shared) (H : Hp) (scope : Scope) (cl : List (Str × Addr)) (Cc : Addr) (fp : List Addr) : Conf W n (X.blk s H scope (compEnvC scope cl Cc X.env) fp) (c.blk scope) :=
  ⟨C.pr, C.w, C.K, C.mg, C.base, C.N, C.nd, by show relS scope X.env.scope = relS scope c.sc; rw [C.sc], C.calm, fun _ => rfl, C.room, C.un⟩
def Sx (W : Wd) (n : Nat) (a : E) : Prop := ∀ X c e Wx, Conf W n X c → Takes X Wx → mE W.tb a c e = true → PE X e (tD W n Wx a) ∧ (a.isIfe = false → PT X e (tT W n Wx a)) ∧ (a.isAO = true → PW X e (tT W n Wx a))
def Sl (W : Wd) (n : Nat) (a : E) : Prop := ∀ X c es Wx, Conf W n X c → Takes X Wx → mEs W.tb a c es = true → PA X es (tL W n Wx a) ∧ (∀ b, a = .cons b .nil → ∃ e, es = [e] ∧ PE X e (tD W n Wx b)) ∧ (∀ b d, a = .cons b (.cons d .nil) → ∃ e f, es = [e, f] ∧ PE X e (tD W n Wx b) ∧ PE X f (tD W n Wx d))
theorem mk {e : Expr} {a : E} (hp : PE X e (tD W n Wx a)) (ht : PT X e (tT W n Wx a)) (ha : a.isAO = false) : PE X e (tD W n Wx a) ∧ (a.isIfe = false → PT X e (tT W n Wx a)) ∧ (a.isAO = true → PW X e (tT W n Wx a)) :=
  ⟨hp, fun _ => ht, fun h => by rw [ha] at h; cases h⟩
theorem mkP {e : Expr} {a : E} (hp : PE X e (tD W n Wx a)) (he : ∀ whole, isTrue e X.env whole = (do let v ← whole; standAt e.pos; holding [v] (truthy v))) (ha : a.isAO = false) : PE X e (tD W n Wx a) ∧ (a.isIfe = false → PT X e (tT W n Wx a)) ∧ (a.isAO = true → PW X e (tT W n Wx a)) :=
  mk hp (t_plain hp he) ha
theorem mE_blt {T : Tab} {f : B} {as : E} {c : Cs} {e : Expr} (hf : ∀ m, f ≠ .listrng m) : mE T (.blt f as) c e = (match e with
      | .Call (.Name x _) (y :: es) [] _ => c.calm && decide (x = bName f) && glB c.sc x && mEs T as c (y :: es)
      | _ => false) := by
  cases f <;> first | rfl | exact absurd rfl (hf _)
theorem call_form {b : Str → Expr → List Expr → Bool} {e : Expr} (h : (match e with | .Call (.Name x _) (y :: es) [] _ => b x y es | _ => false) = true) : ∃ x p y es q, e = .Call (.Name x p) (y :: es) [] q ∧ b x y es = true := by
  split at h
  · exact ⟨_, _, _, _, _, rfl, h⟩
  · cases h
theorem mEs_none {T : Tab} : ∀ {as : E} {c : Cs}, mEs T as c [] = true → as = .nil := fun {as c} h => by
  have hc := mEs_cnt _ _ _ h
  cases as with
  | nil => rfl
  | cons a as => cases hc
  | _ => simp only [mEs] at h; cases h
theorem mEs_one {T : Tab} {as : E} {c : Cs} {y : Expr} (h : mEs T as c [y] = true) : ∃ a, as = .cons a .nil := by
  cases as with
  | cons a as =>
    simp only [mEs, Bool.and_eq_true] at h
    rw [mEs_none h.2]
    exact ⟨a, rfl⟩
  | nil => simp only [mEs] at h; cases h
  | _ => simp only [mEs] at h; cases h
theorem mEs_two {T : Tab} {as : E} {c : Cs} {y z : Expr} (h : mEs T as c [y, z] = true) : ∃ a b, as = .cons a (.cons b .nil) := by
  cases as with
  | cons a as =>
    simp only [mEs, Bool.and_eq_true] at h
    obtain ⟨b, rfl⟩ := mEs_one h.2
    exact ⟨a, b, rfl⟩
  | nil => simp only [mEs] at h; cases h
  | _ => simp only [mEs] at h; cases h
theorem x_and {a b : E} (ha : Sx W n a) (hb : Sx W n b) : Sx W n (.and a b) := fun X c e Wx C tk h => by
  cases e <;> simp only [mE] at h <;> first | (cases h; done) | skip
  rename_i op vs pos
  split at h
  · rename_i x y p he
    injection he with e1 e2 e3
    subst e1 e2 e3
    simp only [Bool.and_eq_true, Bool.not_eq_true'] at h
    obtain ⟨⟨⟨h1, h2⟩, h3⟩, h4⟩ := h
    obtain ⟨pa, ta, _⟩ := ha X c x Wx C tk h3
    obtain ⟨pb, tb, _⟩ := hb X c y Wx C tk h4
    have pw := t_and (pos := pos) (ta h1) (pw_and1 (pos := pos) (tb h2))
    exact ⟨e_and pa (pe_one pb), fun _ => pw.pt, fun _ => pw⟩
  · rename_i x y z r p he
    injection he with e1 e2 e3
    subst e1 e2 e3
    simp only [Bool.and_eq_true, Bool.not_eq_true'] at h
    obtain ⟨⟨h1, h3⟩, h4⟩ := h
    obtain ⟨pa, ta, _⟩ := ha X c x Wx C tk h3
    obtain ⟨pb, tb, wb⟩ := hb X c _ Wx C tk h4
    have hao : b.isAO = true := by
      cases b <;> simp only [mE] at h4 <;> first | rfl | (cases h4; done) | skip
      rename_i f' _
      cases f' <;> simp only [mE] at h4 <;> (cases h4; done)
    have pw := t_and (pos := pos) (ta h1) (wb hao)
    exact ⟨e_and pa pb, fun _ => pw.pt, fun _ => pw⟩
  · cases h
theorem x_or {a b : E} (ha : Sx W n a) (hb : Sx W n b) : Sx W n (.or a b) := fun X c e Wx C tk h => by
  cases e <;> simp only [mE] at h <;> first | (cases h; done) | skip
  rename_i op vs pos
  split at h
  · rename_i x y p he
    injection he with e1 e2 e3
    subst e1 e2 e3
    simp only [Bool.and_eq_true, Bool.not_eq_true'] at h
    obtain ⟨⟨⟨h1, h2⟩, h3⟩, h4⟩ := h
    obtain ⟨pa, ta, _⟩ := ha X c x Wx C tk h3
    obtain ⟨pb, tb, _⟩ := hb X c y Wx C tk h4
    have pw := t_or (pos := pos) (ta h1) (pw_or1 (pos := pos) (tb h2))
    exact ⟨e_or pa (pe_one pb), fun _ => pw.pt, fun _ => pw⟩
  · rename_i x y z r p he
    injection he with e1 e2 e3
    subst e1 e2 e3
    simp only [Bool.and_eq_true, Bool.not_eq_true'] at h
    obtain ⟨⟨h1, h3⟩, h4⟩ := h
    obtain ⟨pa, ta, _⟩ := ha X c x Wx C tk h3
    obtain ⟨pb, tb, wb⟩ := hb X c _ Wx C tk h4
    have hao : b.isAO = true := by
      cases b <;> simp only [mE] at h4 <;> first | rfl | (cases h4; done) | skip
      rename_i f' _
      cases f' <;> simp only [mE] at h4 <;> (cases h4; done)
    have pw := t_or (pos := pos) (ta h1) (wb hao)
    exact ⟨e_or pa pb, fun _ => pw.pt, fun _ => pw⟩
  · cases h
theorem x_blt (O : W.Ok n) {f : B} {as : E} (hs : Sl W n as) : Sx W n (.blt f as) := fun X c e Wx C tk h => by
  by_cases hf : ∃ m, f = .listrng m
  · obtain ⟨m, rfl⟩ := hf
    simp only [mE] at h
    split at h
    · simp only [Bool.and_eq_true, decide_eq_true_eq] at h
      obtain ⟨⟨⟨⟨⟨h1, rfl⟩, rfl⟩, h2⟩, h3⟩, h4⟩ := h
      obtain ⟨pa, p1, _⟩ := hs X c _ Wx C tk h4
      have hst := mEs_stars h4
      simp only [List.all_cons, Bool.and_eq_true, Bool.not_eq_true'] at hst
      obtain ⟨a, rfl⟩ := mEs_one h4
      obtain ⟨e', e1, e2⟩ := p1 a rfl
      injection e1 with e1 _
      subst e1
      have hp := (⟨a, rfl, e2⟩ : ∃ b, E.cons a .nil = .cons b .nil ∧ PE X _ (tD W n Wx b))
      exact mkP (e_listrng (m := m) O C h1 h2 h3 hst.1 pa hp) (fun _ => rfl) rfl
    · cases h
  · have hf' : ∀ m, f ≠ .listrng m := fun m e => hf ⟨m, e⟩
    rw [mE_blt hf'] at h
    obtain ⟨x, p, y, es, q, rfl, h⟩ := call_form (b := fun x y es => c.calm && decide (x = bName f) && glB c.sc x && mEs W.tb as c (y :: es)) h
    simp only [Bool.and_eq_true, decide_eq_true_eq] at h
    obtain ⟨⟨⟨h1, rfl⟩, h2⟩, h3⟩ := h
    have pe := e_blt (p := p) (pos := q) O C h1 hf' h2 (mEs_stars h3) (hs X c _ Wx C tk h3).1
    exact mk pe (t_plain pe fun _ => rfl) rfl
theorem x_bm {f : BM} {a as : E} (ha : Sx W n a) (hs : Sl W n as) : Sx W n (.bm f a as) := fun X c e Wx C tk h => by
  cases e <;> simp only [mE] at h <;> first | (cases h; done) | skip
  rename_i fe args kws pos
  split at h
  · rename_i o m ap y es cp he
    injection he with e1 e2 e3 e4
    subst e1 e2 e3 e4
    simp only [Bool.and_eq_true, decide_eq_true_eq, Bool.not_eq_true'] at h
    obtain ⟨⟨⟨⟨⟨⟨⟨h1, rfl⟩, h2⟩, h3⟩, h4⟩, h5⟩, h6⟩, h7⟩ := h
    have hln : (ap.endLine == pos.line) = true := by rw [h3]; exact beq_self_eq_true _
    obtain ⟨po, _, _⟩ := ha X c o Wx C tk h6
    obtain ⟨pa, p1, p2⟩ := hs X c _ Wx C tk h7
    have hst := mEs_stars h7
    have hst' := hst
    simp only [List.all_cons, Bool.and_eq_true, Bool.not_eq_true'] at hst'
    have key : ∀ (hf : f = .append ∨ f = .extend ∨ f = .lpop), PE X (.Call (.Attribute o (bmName f) ap) (y :: es) [] pos) (tD W n Wx (.bm f a as)) := fun hf => e_bmL C hf h2 hln h4 hst po pa
    have pe : PE X (.Call (.Attribute o (bmName f) ap) (y :: es) [] pos) (tD W n Wx (.bm f a as)) := by
      cases f with
      | append => exact key (.inl rfl)
      | extend => exact key (.inr (.inl rfl))
      | lpop => exact key (.inr (.inr rfl))
      | dpop =>
        have he : es = [] := by cases es with | nil => rfl | cons _ _ => cases h5
        subst he
        obtain ⟨b, rfl⟩ := mEs_one h7
        obtain ⟨e', e1, e2⟩ := p1 b rfl
        injection e1 with e1 _
        subst e1
        exact e_dpop h2 hln hst'.1 po e2
      | dget =>
        cases es with
        | nil => simp at h5
        | cons z r =>
          cases r with
          | cons _ _ => simp at h5
          | nil =>
            have hz := hst'.2
            simp only [List.all_cons, Bool.and_eq_true, Bool.not_eq_true'] at hz
            obtain ⟨b, d, rfl⟩ := mEs_two h7
            obtain ⟨e', f', e1, e2, e3⟩ := p2 b d rfl
            injection e1 with e1 e4
            injection e4 with e4 _
            subst e1 e4
            exact e_dget C h2 hln hst'.1 hz.1 po e2 e3
    exact mk pe (t_plain pe fun _ => rfl) rfl
  · cases h
theorem x_comp (O : W.Ok n) {m : Bool} {own : List Nat} {t : Tg} {k : ItK} {src cd el : E} (hsrc : Sl W n src) (hcd : Sx W n cd) (hel : Sx W n el) : Sx W n (.comp m own t k src cd el) := fun X c e Wx C tk h => by
  cases e <;> simp only [mE] at h <;> first | (cases h; done) | skip
  rename_i elt gens scope pos
  split at h
  · rename_i elt' tg it ifs scope' pos' he
    injection he with e1 e2 e3 e4
    subst e1 e2 e3 e4
    simp only [Bool.and_eq_true] at h
    obtain ⟨⟨⟨⟨⟨⟨h1, h2⟩, h3⟩, h4⟩, h5⟩, h6⟩, h7⟩ := h
    split at h7
    · rename_i es hit
      obtain ⟨pa, p1, _⟩ := hsrc X c es Wx C tk h7
      have hi := src_ok O C hit h7 pa p1
      have hc : X.calm = true := by rw [C.calm]; exact h1
      have hmap : (ownB c own).map (·.2) = own := by
        unfold ownB
        rw [List.map_map]
        conv => rhs; rw [← List.map_id own]
        rfl
      have hown : ∀ i ∈ t.slots, i ∈ own := fun i hi => by
        have := List.all_eq_true.mp h3 i hi
        simpa using this
      have ok : BlkOk X.N X.env.scope scope (ownB c own) := blkOk_by (by rw [C.N, C.sc]; exact h2)
      have hg : ∀ (s : Shared) (H : Hp) (Cc : Addr) (cl : List (Str × Addr)) (fp : List Addr), PG (X.blk s H scope (compEnvC scope cl Cc X.env) fp) tg (gOf X.K t) := fun s H Cc cl fp => sTg (C.blk s H scope cl Cc fp) t tg h4
      have ht : ∀ (s : Shared) (H : Hp) (Cc : Addr) (cl : List (Str × Addr)) (fp : List Addr), PTs (X.blk s H scope (compEnvC scope cl Cc X.env) fp) ifs (tC2 W n cd) := fun s H Cc cl fp => by
        unfold tC2
        split at h6
        · rw [h6]; exact pts_nil
        · simp only [Bool.and_eq_true, Bool.not_eq_true'] at h6
          rw [h6.1.1]
          exact pts_one ((hcd _ _ _ WxF (C.blk s H scope cl Cc fp) takes0 h6.2).2.1 h6.1.2)
        · cases h6
      have he : ∀ (s : Shared) (H : Hp) (Cc : Addr) (cl : List (Str × Addr)) (fp : List Addr), PE (X.blk s H scope (compEnvC scope cl Cc X.env) fp) elt (tD W n WxF el) := fun s H Cc cl fp => (hel _ _ _ WxF (C.blk s H scope cl Cc fp) takes0 h5).1
      have pe : PE X (.ListComp elt [⟨tg, it, ifs, 0⟩] scope pos) (tD W n Wx (.comp m own t k src cd el)) := by
        refine (pe_lc hc C.nd hi ok hg ht he (noSet hit)).weak fun σ H Q q => ?_
        rw [hmap]
        obtain ⟨μ, ρ, M, R, E, q⟩ := q
        refine ⟨μ, ρ, M, R, E, ?_⟩
        simp only [Wd.ev, eval] at q
        refine q.bind fun ds M1 _ p => ?_
        cases hx : items k ds M1 with
        | none => rw [hx] at p; exact p.elim
        | some xs =>
          rw [hx] at p
          refine ⟨xs, rfl, fun μ1 H1 vs J g R1 r wk D hD => ?_⟩
          exact lc_ok R1 (E.grow g) r wk hx (it_tup hit h4) hown hD (p.move g (mvE μ1 H1 g))
      exact mk pe (t_plain pe fun _ => rfl) rfl
    · cases h7
  · cases h
theorem sAll (O : W.Ok n) : ∀ a : E, Sx W n a ∧ Sl W n a := by
  have nol : ∀ {a : E}, (∀ T c es, mEs T a c es = false) → Sl W n a := fun hn X c es Wx C tk h => by rw [hn] at h; cases h
  have nox : ∀ {a : E}, (∀ T c es, mE T a c es = false) → Sx W n a := fun hn X c es Wx C tk h => by rw [hn] at h; cases h
  intro a
  induction a with
  | nil =>
    refine ⟨nox fun _ _ _ => rfl, fun X c es Wx C tk h => ?_⟩
    cases es with
    | nil => exact ⟨a_nil, fun _ e => (nomatch e), fun _ _ e => (nomatch e)⟩
    | cons _ _ => simp only [mEs] at h; cases h
  | cons a as ha has =>
    refine ⟨nox fun _ _ _ => rfl, fun X c es Wx C tk h => ?_⟩
    cases es with
    | nil => simp only [mEs] at h; cases h
    | cons e es =>
      simp only [mEs, Bool.and_eq_true, Bool.not_eq_true'] at h
      obtain ⟨⟨h1, h2⟩, h3⟩ := h
      have pe := (ha.1 X c e Wx C tk h2).1
      obtain ⟨pas, p1, _⟩ := has.2 X c es Wx C tk h3
      refine ⟨a_cons h1 pe pas, fun b e' => ?_, fun b d e' => ?_⟩
      · injection e' with e1 e2
        subst e1 e2
        cases es with
        | nil => exact ⟨e, rfl, pe⟩
        | cons _ _ => simp only [mEs] at h3; cases h3
      · injection e' with e1 e2
        subst e1 e2
        obtain ⟨f, ef, pf⟩ := p1 d rfl
        subst ef
        exact ⟨e, f, rfl, pe, pf⟩
  | var i =>
    refine ⟨fun X c e Wx C tk h => ?_, nol fun _ _ _ => rfl⟩
    cases e <;> simp only [mE] at h <;> first | (cases h; done) | skip
    simp only [Bool.and_eq_true, decide_eq_true_eq, Bool.not_eq_true'] at h
    have pe := e_var (Wx := Wx) (pos := ‹Pos›) C h.1.1.1 h.1.1.2 h.1.2 h.2
    exact mk pe (t_plain pe fun _ => rfl) rfl
  | cst d =>
    refine ⟨fun X c e Wx C tk h => ?_, nol fun _ _ _ => rfl⟩
    cases e <;> simp only [mE] at h <;> first | (cases h; done) | skip
    simp only [decide_eq_true_eq] at h
    have pe := e_cst (X := X) (W := W) (n := n) (Wx := Wx) (pos := ‹Pos›) (j := ‹Nat›) h
    exact mk pe (t_plain pe fun _ => rfl) rfl
  | glb x => exact ⟨nox fun _ _ _ => rfl, nol fun _ _ _ => rfl⟩
  | tup as has =>
    refine ⟨fun X c e Wx C tk h => ?_, nol fun _ _ _ => rfl⟩
    cases e <;> simp only [mE] at h <;> first | (cases h; done) | skip
    have pe := e_tup (k := ‹Nat›) (pos := ‹Pos›) (has.2 X c _ Wx C tk h).1
    exact mk pe (t_plain pe fun _ => rfl) rfl
  | lst m as has =>
    refine ⟨fun X c e Wx C tk h => ?_, nol fun _ _ _ => rfl⟩
    cases e <;> simp only [mE] at h <;> first | (cases h; done) | skip
    have pe := e_lst (m := m) (pos := ‹Pos›) (has.2 X c _ Wx C tk h).1
    exact mk pe (t_plain pe fun _ => rfl) rfl
  | dnew t =>
    refine ⟨fun X c e Wx C tk h => ?_, nol fun _ _ _ => rfl⟩
    cases e <;> simp only [mE] at h <;> first | (cases h; done) | skip
    split at h
    · rename_i he
      injection he with e1 e2 e3
      subst e1 e2 e3
      have pe := e_dnew (X := X) (W := W) (n := n) (Wx := Wx) (t := t) (pos := ‹Pos›)
      exact mk pe (t_plain pe fun _ => rfl) rfl
    · cases h
  | bin op a b ha hb =>
    refine ⟨fun X c e Wx C tk h => ?_, nol fun _ _ _ => rfl⟩
    cases e <;> simp only [mE] at h <;> first | (cases h; done) | skip
    simp only [Bool.and_eq_true, decide_eq_true_eq] at h
    obtain ⟨⟨rfl, h1⟩, h2⟩ := h
    have pe := e_bin (op := op) (pos := ‹Pos›) (ha.1 X c _ Wx C tk h1).1 (hb.1 X c _ Wx C tk h2).1
    exact mk pe (t_plain pe fun _ => rfl) rfl
  | neg a ha =>
    refine ⟨fun X c e Wx C tk h => ?_, nol fun _ _ _ => rfl⟩
    cases e <;> simp only [mE] at h <;> first | (cases h; done) | skip
    split at h
    · rename_i he
      injection he with e1 e2 e3
      subst e1 e2 e3
      have pe := e_neg (pos := ‹Pos›) (ha.1 X c _ Wx C tk h).1
      exact mk pe (t_plain pe fun _ => rfl) rfl
    · cases h
  | not a ha =>
    refine ⟨fun X c e Wx C tk h => ?_, nol fun _ _ _ => rfl⟩
    cases e <;> simp only [mE] at h <;> first | (cases h; done) | skip
    split at h
    · rename_i he
      injection he with e1 e2 e3
      subst e1 e2 e3
      simp only [Bool.and_eq_true, Bool.not_eq_true'] at h
      obtain ⟨pa, ta, _⟩ := ha.1 X c _ Wx C tk h.2
      exact mk (e_not pa) (t_not (ta h.1)) rfl
    · cases h
  | and a b ha hb => exact ⟨x_and ha.1 hb.1, nol fun _ _ _ => rfl⟩
  | or a b ha hb => exact ⟨x_or ha.1 hb.1, nol fun _ _ _ => rfl⟩
  | cmp op a b ha hb =>
    refine ⟨fun X c e Wx C tk h => ?_, nol fun _ _ _ => rfl⟩
    cases e <;> simp only [mE] at h <;> first | (cases h; done) | skip
    split at h
    · rename_i he
      injection he with e1 e2 e3 e4
      subst e1 e2 e3 e4
      simp only [Bool.and_eq_true, decide_eq_true_eq, Bool.not_eq_true'] at h
      obtain ⟨⟨⟨rfl, hm⟩, h1⟩, h2⟩ := h
      have pa := (ha.1 X c _ Wx C tk h1).1
      have pb := (hb.1 X c _ Wx C tk h2).1
      exact mk (e_cmp C pa pb hm) (t_cmp C pa pb hm) rfl
    · cases h
  | isN m a ha =>
    refine ⟨fun X c e Wx C tk h => ?_, nol fun _ _ _ => rfl⟩
    cases e <;> simp only [mE] at h <;> first | (cases h; done) | skip
    split at h
    · rename_i he
      injection he with e1 e2 e3 e4
      subst e1 e2 e3 e4
      simp only [Bool.and_eq_true, decide_eq_true_eq] at h
      obtain ⟨rfl, h1⟩ := h
      have pa := (ha.1 X c _ Wx C tk h1).1
      exact mk (e_isN pa) (t_isN pa) rfl
    · cases h
  | chn op op' a b d ha hb hd =>
    refine ⟨fun X c e Wx C tk h => ?_, nol fun _ _ _ => rfl⟩
    cases e <;> simp only [mE] at h <;> first | (cases h; done) | skip
    split at h
    · rename_i he
      injection he with e1 e2 e3 e4
      subst e1 e2 e3 e4
      simp only [Bool.and_eq_true, decide_eq_true_eq, Bool.not_eq_true'] at h
      obtain ⟨⟨⟨⟨⟨rfl, rfl⟩, hm⟩, h1⟩, h2⟩, h3⟩ := h
      have pa := (ha.1 X c _ Wx C tk h1).1
      have pb := (hb.1 X c _ Wx C tk h2).1
      have pd := (hd.1 X c _ Wx C tk h3).1
      exact mk (e_chn C pa pb pd hm) (t_chn C pa pb pd hm) rfl
    · cases h
  | ife t a b ht ha hb =>
    refine ⟨fun X c e Wx C tk h => ?_, nol fun _ _ _ => rfl⟩
    cases e <;> simp only [mE] at h <;> first | (cases h; done) | skip
    simp only [Bool.and_eq_true, Bool.not_eq_true'] at h
    obtain ⟨⟨⟨h0, h1⟩, h2⟩, h3⟩ := h
    exact ⟨e_ife ((ht.1 X c _ Wx C tk h1).2.1 h0) (ha.1 X c _ Wx C tk h2).1 (hb.1 X c _ Wx C tk h3).1, fun h => (nomatch h), fun h => (nomatch h)⟩
  | idx a b ha hb =>
    refine ⟨fun X c e Wx C tk h => ?_, nol fun _ _ _ => rfl⟩
    cases e <;> simp only [mE] at h <;> first | (cases h; done) | skip
    simp only [Bool.and_eq_true, Bool.not_eq_true'] at h
    have pe := e_idx (pos := ‹Pos›) C (ha.1 X c _ Wx C tk h.1.2).1 (hb.1 X c _ Wx C tk h.2).1 h.1.1
    exact mk pe (t_plain pe fun _ => rfl) rfl
  | slc m a lo hi ha hlo hhi =>
    refine ⟨fun X c e Wx C tk h => ?_, nol fun _ _ _ => rfl⟩
    cases e <;> simp only [mE] at h <;> first | (cases h; done) | skip
    split at h
    · rename_i he
      injection he with e1 e2 e3
      subst e1 e2 e3
      simp only [Bool.and_eq_true] at h
      obtain ⟨⟨h1, h2⟩, h3⟩ := h
      have key : ∀ (b : E) (o : Option Expr), Sx W n b → (match o with | none => b.isNil | some y => !b.isNil && mE W.tb b c y) = true → PO X o (tO W n Wx b) := fun b o hb q => by
        cases o with
        | none => exact o_none q
        | some y =>
          simp only [Bool.and_eq_true, Bool.not_eq_true'] at q
          exact o_some q.1 (hb X c y Wx C tk q.2).1
      exact mkP (e_slc (m := m) (ha.1 X c _ Wx C tk h1).1 (key lo _ hlo.1 h2) (key hi _ hhi.1 h3)) (fun _ => rfl) rfl
    · cases h
  | rev a ha =>
    refine ⟨fun X c e Wx C tk h => ?_, nol fun _ _ _ => rfl⟩
    simp only [mE] at h
    split at h
    · simp only [Bool.and_eq_true, decide_eq_true_eq] at h
      obtain ⟨rfl, h⟩ := h
      exact mkP (e_rev (ha.1 X c _ Wx C tk h).1) (fun _ => rfl) rfl
    · cases h
  | fld a f _ => exact ⟨nox fun _ _ _ => rfl, nol fun _ _ _ => rfl⟩
  | call f as has =>
    refine ⟨fun X c e Wx C tk h => ?_, nol fun _ _ _ => rfl⟩
    simp only [mE] at h
    obtain ⟨x, p, y, es, q, rfl, h⟩ := call_form (b := fun x y es => c.calm && decide (W.tb.fns[f]? = some (x, none)) && glB c.sc x && mEs W.tb as c (y :: es)) h
    simp only [Bool.and_eq_true, decide_eq_true_eq] at h
    obtain ⟨⟨⟨h1, h2⟩, h3⟩, h4⟩ := h
    have pe := e_call (p := p) (pos := q) O C tk h1 h2 h3 (mEs_stars h4) (has.2 X c _ Wx C tk h4).1
    exact mk pe (t_plain pe fun _ => rfl) rfl
  | meth _ _ _ _ _ _ => exact ⟨nox fun _ _ _ => rfl, nol fun _ _ _ => rfl⟩
  | make _ _ _ _ => exact ⟨nox fun _ _ _ => rfl, nol fun _ _ _ => rfl⟩
  | blt f as has => exact ⟨x_blt O has.2, nol fun _ _ _ => rfl⟩
  | bm f a as ha has => exact ⟨x_bm ha.1 has.2, nol fun _ _ _ => rfl⟩
  | isi a t ha =>
    refine ⟨fun X c e Wx C tk h => ?_, nol fun _ _ _ => rfl⟩
    simp only [mE] at h
    split at h
    · simp only [Bool.and_eq_true, decide_eq_true_eq, Bool.not_eq_true'] at h
      obtain ⟨⟨⟨⟨⟨rfl, rfl⟩, h1⟩, h2⟩, h3⟩, h4⟩ := h
      exact mkP (e_isi O C h1 h2 h3 (ha.1 X c _ Wx C tk h4).1) (fun _ => rfl) rfl
    · cases h
  | comp m own t k src cd el hsrc hcd hel => exact ⟨x_comp O hsrc.2 hcd.1 hel.1, nol fun _ _ _ => rfl⟩
end
end MP

/-! Mp2m: statements: the matcher, what is wanted behind them, each by its rule. -/
namespace MP
open PySem PySem.Spec PyProof.Rows L2
/-! ### the text -/
def compB : Expr → Bool
  | .ListComp _ _ _ _ => true
  | .SetComp _ _ _ _ => true
  | .DictComp _ _ _ _ _ => true
  | _ => false
def tupB : Expr → Bool
  | .Tuple _ _ _ => true
  | _ => false
def kindF (sc : Scope) : Bool := match sc.kind with
  | .function => true
  | _ => false
/-- name = [..]: stored within the comprehension; else no comprehension -/
def swB (c : Cs) (x : Str) (px : Pos) : Expr → Bool
  | .ListComp _ _ scope pos => decide (c.sc.names.lookup x = some .cell) || (kindF c.sc && decide (c.sc.names.lookup x = some .local) && (px.line == pos.line) && !(scope.names.any fun (n, k) => n == x && (k == .local || k == .cell)))
  | e => !compB e
def parB (c : Cs) (i j : Nat) (x y : Str) (px py : Pos) (va vb : Expr) : Bool :=
  c.calm && decide (c.N[i]? = some x) && decide (c.N[j]? = some y) && decide (i ≠ j) && decide (c.sc.names.lookup x = some .local) && decide (c.sc.names.lookup y = some .local) && kindF c.sc && (py.line == px.line) && !(x == y) && !starB va && !starB vb &&
    !(foldedForSure 8 va && foldedForSure 8 vb) && !(constantsAlone 8 va && constantsAlone 8 vb)
/-- a, b = x, y by a pair: one of the names is a cell -/
def parC (c : Cs) (i j : Nat) (x y : Str) (va vb : Expr) : Bool :=
  c.calm && decide (c.N[i]? = some x) && decide (c.N[j]? = some y) && locB c.sc x && locB c.sc y && (c.fn x || decide (c.sc.names.lookup x = some .local)) && (c.fn y || decide (c.sc.names.lookup y = some .local)) && (decide (c.sc.names.lookup x ≠ some .local) || decide (c.sc.names.lookup y ≠ some .local)) && !starB va && !starB vb
mutual
def mS (T : Tab) : S → Cs → Stmt → Bool
  | .pass, _, st => (match st with | .Pass _ => true | _ => false)
  | .brk, _, st => (match st with | .Break _ => true | _ => false)
  | .cnt, _, st => (match st with | .Continue _ => true | _ => false)
  | .expr e, c, st => (match st with | .Expr v _ => !compB v && mE T e c v | _ => false)
  | .asg t e, c, st => (match st with
    | .Assign [.Name x px] v _ => mTg c t (.Name x px) && swB c x px v && mE T e c v
    | .Assign [.Tuple es k p] v _ => mTg c t (.Tuple es k p) && !tupB v && !compB v && mE T e c v
    | _ => false)
  | .par i j a b, c, st => (match st with
    | .Assign [.Tuple [.Name x px, .Name y py] _ _] (.Tuple [va, vb] _ _) _ => (parB c i j x y px py va vb || parC c i j x y va vb) && mE T a c va && mE T b c vb
    | _ => false)
  | .sti a b e, c, st => (match st with
    | .Assign [.Subscript o i _] v _ => !sliceB i && mE T a c o && mE T b c i && mE T e c v
    | _ => false)
  | .stf _ _ _, _, _ => false
  | .ret e, c, st => (match st with | .Return (some v) _ => mE T e c v | _ => false)
  | .retN, _, st => (match st with | .Return none _ => true | _ => false)
  | .ite t a b, c, st => (match st with | .If x p q _ => !t.isIfe && mE T t c x && mSs T a c p && mSs T b c q | _ => false)
  | .for t k src b, c, st => (match st with
    | .For tg it body [] _ => c.calm && mTg c t tg && (match itArgs k c tg it with | some es => mEs T src c es | none => false) && mSs T b c body
    | _ => false)
  | .whl _ t b, c, st => (match st with
    | .While x body [] _ => c.calm && !t.isIfe && mE T t c x && mSs T b c body
    | _ => false)
  | .rai k, c, st => (match st with
    | .Raise (some (.Call (.Name x _) [] [] _)) none _ => c.calm && decide (T.excs[k]? = some x) && glB c.sc x
    | _ => false)
  | .try b h, c, st => (match st with
    | .Try body (h0 :: hs) [] [] _ => c.calm && mSs T b c body && mHs T h c (h0 :: hs)
    | _ => false)
  | .done, _, _ => false
  | .seq _ _, _, _ => false
  | .hd _ _ _, _, _ => false
def mSs (T : Tab) : S → Cs → List Stmt → Bool
  | .done, _, sts => sts.isEmpty
  | .seq s t, c, sts => (match sts with | st :: r => mS T s c st && mSs T t c r | [] => false)
  | _, _, _ => false
def mHs (T : Tab) : S → Cs → List ExceptHandler → Bool
  | .done, _, hs => hs.isEmpty
  | .hd k h t, c, hs => (match hs with
    | .ExceptHandler (some (.Name x _)) none (b0 :: suite) _ :: r => decide (T.excs[k]? = some x) && glB c.sc x && mSs T h { c with calm := false } (b0 :: suite) && mHs T t c r
    | _ => false)
  | _, _, _ => false
end

/-! ### what is wanted -/
def PostS (W : Wd) (Wx : WX) (D : Ends) (μ : Mu) (H : Hp) : F → Prop
  | .nx ρ M => ∀ μ' H' σ, Grow μ H μ' H' → Rep W.T μ' H' M → REnv μ' H' σ ρ → D.nx σ H'
  | .rt d M => ∀ v μ' H', Grow μ H μ' H' → Rep W.T μ' H' M → RV μ' H' d v → D.rt v H'
  | .bk ρ M => ∀ μ' H' σ, Grow μ H μ' H' → Rep W.T μ' H' M → REnv μ' H' σ ρ → D.bk σ H'
  | .ct ρ M => ∀ μ' H' σ, Grow μ H μ' H' → Rep W.T μ' H' M → REnv μ' H' σ ρ → D.ct σ H'
  | .ex c ρ M => ∀ μ' H' σ, Grow μ H μ' H' → Rep W.T μ' H' M → REnv μ' H' σ ρ → Wx (.ref (W.T.xa c)) none σ H'
  | .stuck => False
abbrev Wd.ex (W : Wd) (n : Nat) (s : S) (ρ : Env) (M : Mem) : F := exec W.P.gl (callF W.P n) W.P.subAt s ρ M
def tS (W : Wd) (n : Nat) (Wx : WX) (s : S) : TS := fun D σ H => ∃ μ ρ M, Rep W.T μ H M ∧ REnv μ H σ ρ ∧ PostS W Wx D μ H (W.ex n s ρ M)
section
variable {W : Wd} {n : Nat} {Wx : WX} {X : Cx} {c : Cs} {D : Ends} {σ : L2.St} {μ μ' : Mu} {H H' : Hp} {M : Mem} {ρ : Env} {f : F} {pos : Pos}
theorem PostS.move (g : Grow μ H μ' H') (h : PostS W Wx D μ H f) : PostS W Wx D μ' H' f := by
  cases f with
  | nx ρ M => exact fun μ2 H2 σ g2 R E => h μ2 H2 σ (g.trans g2) R E
  | rt d M => exact fun v μ2 H2 g2 R E => h v μ2 H2 (g.trans g2) R E
  | bk ρ M => exact fun μ2 H2 σ g2 R E => h μ2 H2 σ (g.trans g2) R E
  | ct ρ M => exact fun μ2 H2 σ g2 R E => h μ2 H2 σ (g.trans g2) R E
  | ex c ρ M => exact fun μ2 H2 σ g2 R E => h μ2 H2 σ (g.trans g2) R E
  | stuck => exact h
theorem PostS.toF {α : Type} {G : α → Mem → Prop} {r : R α} {k : α → Mem → F} (E : REnv μ H σ ρ) (h : PostS W Wx D μ H (r.toF ρ k)) (q : ∀ a M, r = .ok a M → PostS W Wx D μ H (k a M) → G a M) : Post W Wx σ μ H G r := by
  cases r with
  | ok a M => exact q a M rfl h
  | exc c M => exact fun μ' H' g R => h μ' H' σ g R (E.grow g)
  | stuck => exact h
theorem _root_.L2.PS.weak {X : Cx} {st : Stmt} {t t' : TS} (h : PS X st t) (w : ∀ D σ H, t' D σ H → t D σ H) : PS X st t' := ⟨fun pins s σ H D I q => h.run pins s σ H D I (w _ _ _ q)⟩
theorem _root_.L2.PSs.weak {X : Cx} {st : List Stmt} {t t' : TS} (h : PSs X st t) (w : ∀ D σ H, t' D σ H → t D σ H) : PSs X st t' := ⟨fun pins s σ H D I q => h.run pins s σ H D I (w _ _ _ q)⟩
/-- an expression, then more -/
theorem sD_step {a : E} {k : MP.D → Mem → F} {R1 : VK} (R : Rep W.T μ H M) (E : REnv μ H σ ρ) (h : PostS W Wx D μ H ((W.ev n a ρ M).toF ρ k))
    (q : ∀ d M1 v μ1 H1, Grow μ H μ1 H1 → Rep W.T μ1 H1 M1 → REnv μ1 H1 σ ρ → RV μ1 H1 d v → PostS W Wx D μ1 H1 (k d M1) → R1 v H1) : tD W n Wx a σ H R1 :=
  ⟨μ, ρ, M, R, E, h.toF E fun d M1 e p v μ1 H1 g R' r => q d M1 v μ1 H1 g R' (E.grow g) r (p.move g)⟩
theorem s_pass : PS X (.Pass pos) (tS W n Wx .pass) := ps_pass.weak fun D σ H ⟨μ, ρ, M, R, E, q⟩ => q μ H σ (Grow.refl _ _) R E
theorem s_brk : PS X (.Break pos) (tS W n Wx .brk) := ps_break.weak fun D σ H ⟨μ, ρ, M, R, E, q⟩ => q μ H σ (Grow.refl _ _) R E
theorem s_cnt : PS X (.Continue pos) (tS W n Wx .cnt) := ps_continue.weak fun D σ H ⟨μ, ρ, M, R, E, q⟩ => q μ H σ (Grow.refl _ _) R E
theorem s_done : PSs X [] (tS W n Wx .done) := pss_nil.weak fun D σ H ⟨μ, ρ, M, R, E, q⟩ => q μ H σ (Grow.refl _ _) R E
theorem noComp {e : Expr} {t : Option Expr} {l : Nat} {env : PySem.Env} (h : compB e = false) : swapsWith e t l env = pure false := by
  cases e <;> first | rfl | (cases h; done)
theorem s_expr {a : E} {e : Expr} (hc : compB e = false) (ha : PE X e (tD W n Wx a)) : PS X (.Expr e pos) (tS W n Wx (.expr a)) := by
  refine (ps_expr ha (noComp hc)).weak fun D σ H ⟨μ, ρ, M, R, E, q⟩ => ?_
  exact sD_step R E q fun d M1 v μ1 H1 g R1 E1 rv p => p μ1 H1 σ (Grow.refl _ _) R1 E1
theorem s_ret {a : E} {e : Expr} (ha : PE X e (tD W n Wx a)) : PS X (.Return (some e) pos) (tS W n Wx (.ret a)) := by
  refine (ps_ret ha).weak fun D σ H ⟨μ, ρ, M, R, E, q⟩ => ?_
  exact sD_step R E q fun d M1 v μ1 H1 g R1 E1 rv p => p v μ1 H1 (Grow.refl _ _) R1 rv
theorem s_retN : PS X (.Return none pos) (tS W n Wx .retN) := ps_retN.weak fun D σ H ⟨μ, ρ, M, R, E, q⟩ => q .non μ H (Grow.refl _ _) R rfl
theorem asg_step {a : E} {t : Tg} (R : Rep W.T μ H M) (E : REnv μ H σ ρ) (q : PostS W Wx D μ H (W.ex n (.asg t a) ρ M)) {K : PySem.W.Frag} : tD W n Wx a σ H fun x H1 => gOf K t x σ H1 D.nx := by
  simp only [Wd.ex, exec] at q
  refine sD_step R E q fun d M1 v μ1 H1 g R1 E1 rv p => ?_
  cases e : asg t d ρ with
  | none => rw [e] at p; exact p.elim
  | some ρ' =>
    rw [e] at p
    exact asg_ok t d v σ ρ ρ' _ e E1 rv fun σ' E' _ => p μ1 H1 σ' (Grow.refl _ _) R1 E'
theorem s_asgN (C : Conf W n X c) {a : E} {t : Tg} {x : Str} {px : Pos} {e : Expr} (ht : mTg c t (.Name x px) = true) (hc : compB e = false) (ha : PE X e (tD W n Wx a)) : PS X (.Assign [.Name x px] e pos) (tS W n Wx (.asg t a)) := by
  cases t with
  | name i =>
    simp only [mTg, Bool.and_eq_true, decide_eq_true_eq, Bool.or_eq_true] at ht
    refine (ps_set (i := i) C.nd (by rw [C.N]; exact ht.1.1) (by rw [C.sc]; exact locB_ok ht.1.2) ha (noComp hc) ?_).weak fun D σ H ⟨μ, ρ, M, R, E, q⟩ => ?_
    · rcases ht.2 with h2 | h2
      · exact .inl (by rw [C.fn]; exact h2)
      · exact .inr (by rw [C.sc]; exact h2)
    · exact (asg_step (K := X.K) R E q : tD W n Wx a σ H fun x H1 => gOf X.K (.name i) x σ H1 D.nx)
  | _ => simp only [mTg] at ht; cases ht
theorem s_asgT (C : Conf W n X c) {a : E} {t : Tg} {es : List Expr} {k : Nat} {p : Pos} {e : Expr} (ht : mTg c t (.Tuple es k p) = true) (hc : compB e = false) (h2 : tupB e = false) (ha : PE X e (tD W n Wx a)) : PS X (.Assign [.Tuple es k p] e pos) (tS W n Wx (.asg t a)) := by
  refine (ps_asg ha (sTg C t _ ht) (by unfold swapsWithSole; exact noComp hc) ?_ rfl).weak fun D σ H ⟨μ, ρ, M, R, E, q⟩ => asg_step (K := X.K) R E q
  cases e <;> first | rfl | (cases h2; done)
theorem swapped2 {i j : Nat} {x y : Str} {px py kp : Pos} {va vb : Expr} {kt k2 : Nat} {pt2 : Pos} (C : Conf W n X c) (h : parB c i j x y px py va vb = true) : swappedStores [.Tuple [.Name x px, .Name y py] kt kp] (.Tuple [va, vb] k2 pt2) X.env = pure (some [x, y]) := by
  unfold parB at h
  simp only [Bool.and_eq_true, decide_eq_true_eq, Bool.not_eq_true'] at h
  obtain ⟨⟨⟨⟨⟨⟨⟨⟨⟨⟨⟨⟨h0, h1⟩, h2⟩, h3⟩, h4⟩, h5⟩, h6⟩, h7⟩, h8⟩, h9⟩, h10⟩, h11⟩, h12⟩ := h
  have kx : X.env.kindOf x = some .local := by show X.env.scope.names.lookup x = _; rw [C.sc]; exact h4
  have ky : X.env.kindOf y = some .local := by show X.env.scope.names.lookup y = _; rw [C.sc]; exact h5
  have hk : X.env.scope.kind = .function := by
    rw [C.sc]
    unfold kindF at h6
    split at h6
    · assumption
    · cases h6
  have hb : X.env.blockKind = .function := by unfold Env.blockKind; rw [hk]; rfl
  have st : ∀ e : Expr, starB e = false → (match e with | .Starred .. => true | _ => false) = false := fun e h => by cases e <;> first | rfl | (cases h; done)
  unfold swappedStores
  simp only [hb, kx, ky]
  have hd : ([x, y] : List Str).eraseDups.length = 2 := by
    have : (y == x) = false := by
      rw [Bool.eq_false_iff] at h8 ⊢
      intro z
      exact h8 (by rw [eq_of_beq z]; exact beq_self_eq_true _)
    simp [List.eraseDups_cons, this]
  simp only [List.any_cons, List.any_nil, Bool.or_false, st va h9, st vb h10, List.length_cons, List.length_nil, List.head?_cons, Option.map_some, Option.getD_some, Expr.pos, h7, beq_self_eq_true, Bool.and_self, if_true, List.filterMap_cons, List.filterMap_nil, List.all_cons, List.all_nil, Bool.and_true, h11, h12, Bool.true_and]
  have nst : ∀ e : Expr, starB e = false → ∀ (P : Prop), (match e with | .Starred .. => true | _ => false) = true → P := fun e h P q => by rw [st e h] at q; cases q
  simp [kx, ky, hd]
  rintro (q | q)
  · exact nst va h9 _ q
  · exact nst vb h10 _ q
theorem s_par (C : Conf W n X c) {i j : Nat} {a b : E} {x y : Str} {px py kp : Pos} {va vb : Expr} {kt k2 : Nat} {pt2 : Pos} (h : parB c i j x y px py va vb = true) (ha : PE X va (tD W n Wx a)) (hb : PE X vb (tD W n Wx b)) :
    PS X (.Assign [.Tuple [.Name x px, .Name y py] kt kp] (.Tuple [va, vb] k2 pt2) pos) (tS W n Wx (.par i j a b)) := by
  have h' := h
  unfold parB at h'
  simp only [Bool.and_eq_true, decide_eq_true_eq, Bool.not_eq_true'] at h'
  obtain ⟨⟨⟨⟨⟨⟨⟨⟨⟨⟨⟨⟨h0, h1⟩, h2⟩, h3⟩, h4⟩, h5⟩, h6⟩, h7⟩, h8⟩, h9⟩, h10⟩, h11⟩, h12⟩ := h'
  have pa : PA X [va, vb] (tL W n Wx (.cons a (.cons b .nil))) := a_cons h9 ha (a_cons h10 hb a_nil)
  refine (ps_par (i := i) (j := j) (by rw [C.calm]; exact h0) C.nd (by rw [C.N]; exact h1) (by rw [C.N]; exact h2) h3 (by rw [C.sc]; exact h4) (by rw [C.sc]; exact h5) pa (swapped2 C h) rfl).weak fun D σ H ⟨μ, ρ, M, R, E, q⟩ => ?_
  refine ⟨μ, ρ, M, R, E, ?_⟩
  simp only [Wd.ex, exec] at q
  simp only [Wd.evL, evalL]
  cases e1 : eval W.P.gl (callF W.P n) a ρ M with
  | stuck => rw [e1] at q; exact q.elim
  | exc k M1 => rw [e1] at q; exact fun μ' H' g R' => q μ' H' σ g R' (E.grow g)
  | ok d1 M1 =>
    rw [e1] at q
    simp only [MP.R.toF_ok] at q
    simp only [MP.R.bind_ok]
    cases e2 : eval W.P.gl (callF W.P n) b ρ M1 with
    | stuck => rw [e2] at q; exact q.elim
    | exc k M2 => rw [e2] at q; exact fun μ' H' g R' => q μ' H' σ g R' (E.grow g)
    | ok d2 M2 =>
      rw [e2] at q
      simp only [MP.R.toF_ok] at q
      intro vs μ1 H1 g R1 rv
      obtain ⟨v, r', rfl, r1, w, r'', rfl, r2, rfl⟩ := rv
      exact ⟨v, w, rfl, q μ1 H1 _ g R1 (((E.grow g).set i r1).set j r2)⟩
theorem swappedN {i j : Nat} {x y : Str} {px py kp : Pos} {va vb : Expr} {kt k2 : Nat} {pt2 : Pos} (C : Conf W n X c) (h : parC c i j x y va vb = true) : swappedStores [.Tuple [.Name x px, .Name y py] kt kp] (.Tuple [va, vb] k2 pt2) X.env = pure none := by
  unfold parC at h
  simp only [Bool.and_eq_true, decide_eq_true_eq, Bool.not_eq_true', Bool.or_eq_true] at h
  have hxy := h.1.1.2
  have kk : X.env.kindOf x ≠ some .local ∨ X.env.kindOf y ≠ some .local := by
    rcases hxy with z | z
    · exact .inl (by show X.env.scope.names.lookup x ≠ _; rw [C.sc]; exact z)
    · exact .inr (by show X.env.scope.names.lookup y ≠ _; rw [C.sc]; exact z)
  unfold swappedStores
  simp only
  split
  · rfl
  · split
    · rfl
    · rw [if_pos]
      simp only [List.filterMap_cons, List.filterMap_nil, List.length_cons, List.length_nil]
      rcases kk with z | z
      · rw [show (X.env.kindOf x == some NameKind.local) = false from by simpa using z]
        simp only [Bool.false_and, Bool.false_eq_true, if_false]
        split <;> simp
      · rw [show (X.env.kindOf y == some NameKind.local) = false from by simpa using z]
        simp only [Bool.false_and, Bool.false_eq_true, if_false]
        split <;> simp
theorem s_parC (C : Conf W n X c) {i j : Nat} {a b : E} {x y : Str} {px py kp : Pos} {va vb : Expr} {kt k2 : Nat} {pt2 : Pos} (h : parC c i j x y va vb = true) (ha : PE X va (tD W n Wx a)) (hb : PE X vb (tD W n Wx b)) :
    PS X (.Assign [.Tuple [.Name x px, .Name y py] kt kp] (.Tuple [va, vb] k2 pt2) pos) (tS W n Wx (.par i j a b)) := by
  have h' := h
  unfold parC at h'
  simp only [Bool.and_eq_true, decide_eq_true_eq, Bool.not_eq_true', Bool.or_eq_true] at h'
  obtain ⟨⟨⟨⟨⟨⟨⟨⟨⟨h0, h1⟩, h2⟩, h3⟩, h4⟩, h5⟩, h6⟩, h7⟩, h9⟩, h10⟩ := h'
  have pa : PA X [va, vb] (tL W n Wx (.cons a (.cons b .nil))) := a_cons h9 ha (a_cons h10 hb a_nil)
  have ht : mTg c (.tup (.cons (.name i) (.cons (.name j) .nil))) (.Tuple [.Name x px, .Name y py] kt kp) = true := by
    simp [mTg, mTgs, starB, h0, h1, h2, h3, h4, h5, h6]
  refine (ps_asg (e_tup pa) (sTg C _ _ ht) (by rfl) (swappedN C h) rfl).weak fun D σ H ⟨μ, ρ, M, R, E, q⟩ => ?_
  refine asg_step (K := X.K) (n := n) (a := .tup (.cons a (.cons b .nil))) R E ?_
  simp only [Wd.ex, exec] at q
  simp only [Wd.ex, exec, eval, evalL]
  cases e1 : eval W.P.gl (callF W.P n) a ρ M with
  | stuck => rw [e1] at q; exact q
  | exc k M1 => rw [e1] at q; exact q
  | ok d1 M1 =>
    rw [e1] at q
    simp only [MP.R.toF_ok] at q
    simp only [MP.R.bind_ok]
    cases e2 : eval W.P.gl (callF W.P n) b ρ M1 with
    | stuck => rw [e2] at q; exact q
    | exc k M2 => rw [e2] at q; exact q
    | ok d2 M2 =>
      rw [e2] at q
      exact q
theorem s_seq {s t : S} {st : Stmt} {rest : List Stmt} (h1 : PS X st (tS W n Wx s)) (h2 : PSs X rest (tS W n Wx t)) : PSs X (st :: rest) (tS W n Wx (.seq s t)) := by
  refine (pss_cons h1 h2).weak fun D σ H ⟨μ, ρ, M, R, E, q⟩ => ?_
  refine ⟨μ, ρ, M, R, E, ?_⟩
  simp only [Wd.ex, exec] at q ⊢
  cases e : exec W.P.gl (callF W.P n) W.P.subAt s ρ M with
  | nx ρ' M' =>
    rw [e] at q
    exact fun μ' H' σ' g R' E' => ⟨μ', ρ', M', R', E', q.move g⟩
  | rt d M' => rw [e] at q; exact q
  | bk ρ' M' => rw [e] at q; exact q
  | ct ρ' M' => rw [e] at q; exact q
  | ex k ρ' M' => rw [e] at q; exact q
  | stuck => rw [e] at q; exact q
theorem s_ite {t : E} {a b : S} {x : Expr} {p q : List Stmt} (ht : PT X x (tT W n Wx t)) (ha : PSs X p (tS W n Wx a)) (hb : PSs X q (tS W n Wx b)) : PS X (.If x p q pos) (tS W n Wx (.ite t a b)) := by
  refine (ps_if ht ha hb).weak fun D σ H ⟨μ, ρ, M, R, E, q⟩ => ?_
  simp only [Wd.ex, exec] at q
  refine ⟨μ, ρ, M, R, E, q.toF E fun k M1 _ p μ' H' g R' => ?_⟩
  cases k with
  | true => exact iteT ⟨μ', ρ, M1, R', E.grow g, PostS.move g p⟩
  | false => exact iteF ⟨μ', ρ, M1, R', E.grow g, PostS.move g p⟩
theorem s_whl {m : Nat} {t : E} {b : S} {x : Expr} {body : List Stmt} (hp : PassesOwn (model X.prog X.w) X.A X.env X.xe) (ht : PT X x (tT W n Wx t)) (hb : PSs X body (tS W n Wx b)) : PS X (.While x body [] pos) (tS W n Wx (.whl m t b)) := by
  refine (ps_while hp ht hb).weak fun D σ H ⟨μ, ρ, M, R, E, q⟩ => ?_
  simp only [Wd.ex, exec] at q
  refine ⟨fun k σ H => ∃ μ ρ M, Rep W.T μ H M ∧ REnv μ H σ ρ ∧ PostS W Wx D μ H (whlL (fun ρ M => (W.ev n t ρ M).bind toTest) (fun ρ M => W.ex n b ρ M) k ρ M), ⟨m, μ, ρ, M, R, E, q⟩, ?_⟩
  rintro k σ H ⟨μ, ρ, M, R, E, q⟩
  cases k with
  | zero => exact q.elim
  | succ k =>
    simp only [whlL] at q
    refine ⟨μ, ρ, M, R, E, q.toF E fun bb M1 _ p μ1 H1 g R1 => ?_⟩
    cases bb with
    | false => exact iteF ((show PostS W Wx D μ H (.nx ρ M1) from p) μ1 H1 σ g R1 (E.grow g))
    | true =>
      simp only [if_true] at p
      refine iteT ⟨fun σ H => ∃ μ ρ M, Rep W.T μ H M ∧ REnv μ H σ ρ ∧ PostS W Wx D μ H (whlL (fun ρ M => (W.ev n t ρ M).bind toTest) (fun ρ M => W.ex n b ρ M) k ρ M), fun σ' H' w => ⟨k, Nat.lt_succ_self _, w⟩, μ1, ρ, M1, R1, E.grow g, ?_⟩
      cases e : W.ex n b ρ M1 with
      | nx ρ' M' => rw [e] at p; exact fun μ' H' σ' g' R' E' => ⟨μ', ρ', M', R', E', PostS.move (g.trans g') p⟩
      | ct ρ' M' => rw [e] at p; exact fun μ' H' σ' g' R' E' => ⟨μ', ρ', M', R', E', PostS.move (g.trans g') p⟩
      | bk ρ' M' => rw [e] at p; exact PostS.move (D := D) (f := .nx ρ' M') g p
      | rt d M' => rw [e] at p; exact PostS.move (D := D) (f := .rt d M') g p
      | ex k ρ' M' => rw [e] at p; exact PostS.move (D := D) (f := .ex k ρ' M') g p
      | stuck => rw [e] at p; exact p.elim
theorem s_for (O : W.Ok n) (C : Conf W n X c) {t : Tg} {k : ItK} {src : E} {b : S} {tg it : Expr} {es : List Expr} {body : List Stmt} (hp : PassesOwn (model X.prog X.w) X.A X.env X.xe) (hc : c.calm = true) (ht : mTg c t tg = true) (hit : itArgs k c tg it = some es)
    (hi : PI X tg it (iSrc W n Wx k src)) (hb : PSs X body (tS W n Wx b)) : PS X (.For tg it body [] pos) (tS W n Wx (.for t k src b)) := by
  refine (ps_for hp (by rw [C.calm]; exact hc) hi (sTg C t tg ht) hb (noSet hit)).weak fun D σ H ⟨μ, ρ, M, R, E, q⟩ => ?_
  simp only [Wd.ex, exec] at q
  refine ⟨μ, ρ, M, R, E, q.toF E fun ds M1 _ p => ?_⟩
  cases hx : items k ds M1 with
  | none => rw [hx] at p; exact p.elim
  | some xs =>
    rw [hx] at p
    refine ⟨xs, rfl, fun μ1 H1 vs J g R1 r wk => ?_⟩
    have p := PostS.move g p
    let gB : MP.D → Env → Mem → F := fun x ρ M => match MP.asg t x ρ with | some ρ' => W.ex n b ρ' M | none => .stuck
    let Pv : Nat → L2.St → Hp → Prop := fun i σ H => ∃ μ ρ M, Grow μ1 H1 μ H ∧ Rep W.T μ H M ∧ REnv μ H σ ρ ∧ PostS W Wx D μ H (forL ds M1 gB (xs.drop i) ρ M)
    refine ⟨fun i m σ H => m = xs.length - i ∧ i ≤ xs.length ∧ Pv i σ H, ⟨xs.length, by simp, Nat.zero_le _, μ1, ρ, M1, Grow.refl _ _, R1, E.grow g, p⟩, ?_⟩
    rintro i m σ H ⟨rfl, hi, μ2, ρ2, M2, g2, R2, E2, q2⟩
    have rds := RVs.grow g2 _ _ r
    by_cases hlt : i < xs.length
    · rw [List.drop_eq_getElem_cons hlt] at q2
      unfold forL at q2
      cases hst : still ds M1 M2 with
      | false => rw [hst] at q2; exact q2.elim
      | true =>
        rw [hst] at q2
        simp only [if_true] at q2
        have he' : items k ds M2 = some xs := by rw [items_still hst]; exact hx
        refine .inr ⟨wk.go i _ H M2 R2 rds he' hlt, Pv (i + 1), fun σ' H' pv => ⟨xs.length - (i + 1), by omega, rfl, hlt, pv⟩, fun x H' yl => ?_⟩
        obtain ⟨R3, g3, d, hd, ri⟩ := wk.yld i _ H M2 x H' R2 rds he' hlt yl
        have hd' : xs[i] = d := by
          rw [List.getElem?_eq_getElem hlt] at hd
          exact Option.some.inj hd
        rw [hd'] at q2
        cases ea : MP.asg t d ρ2 with
        | none =>
          simp only [gB, ea] at q2
          exact q2.elim
        | some ρ3 =>
          simp only [gB, ea] at q2
          refine asgI_ok t ea (E2.grow g3) ri (it_tup hit ht) fun σ3 E3 _ => ⟨μ2, ρ3, M2, R3, E3, ?_⟩
          have q3 := PostS.move g3 q2
          cases e : W.ex n b ρ3 M2 with
          | nx ρ' M' => rw [e] at q3; exact fun μ' H' σ' g' R' E' => ⟨μ', ρ', M', (g2.trans g3).trans g', R', E', PostS.move g' q3⟩
          | ct ρ' M' => rw [e] at q3; exact fun μ' H' σ' g' R' E' => ⟨μ', ρ', M', (g2.trans g3).trans g', R', E', PostS.move g' q3⟩
          | bk ρ' M' => rw [e] at q3; exact q3
          | rt d M' => rw [e] at q3; exact q3
          | ex k ρ' M' => rw [e] at q3; exact q3
          | stuck => rw [e] at q3; exact q3.elim
    · have hi' : i = xs.length := by omega
      subst hi'
      rw [List.drop_length] at q2
      unfold forL at q2
      cases hst : still ds M1 M2 with
      | false => rw [hst] at q2; exact q2.elim
      | true =>
        rw [hst] at q2
        simp only [if_true] at q2
        have he' : items k ds M2 = some xs := by rw [items_still hst]; exact hx
        exact .inl ⟨wk.stop _ H M2 R2 rds he', q2 μ2 H σ (Grow.refl _ _) R2 E2⟩
end
end MP

/-! Mp2n: stores into lists and dicts, raise, try, name = [..]; every statement that the matcher knows. -/
namespace MP
open PySem PySem.Spec PyProof.Rows L2
section
variable {W : Wd} {n : Nat} {Wx : WX} {X : Cx} {c : Cs} {D : Ends} {σ : L2.St} {μ μ' : Mu} {H H' : Hp} {M : Mem} {ρ : Env} {f : F} {pos p : Pos}
def rSetA : TSet := fun o i v H Q => rSetL o i v H Q ∨ rSetD o i v H Q
theorem set_all (hu : X.A.units + 1 < cLine) : PSet X rSetA := by
  intro pins s σ H o i v ov iv u Q I ro ri rv h
  rcases h with h | h
  · exact set_list pins s σ H o i v ov iv u Q I ro ri rv h
  · exact set_dict hu pins s σ H o i v ov iv u Q I ro ri rv h
theorem setIt_ok {T : Ad} {x y d : MP.D} {v i u : V} {M' : Mem} {Q : Hp → Prop} (R : Rep T μ H M) (rx : RV μ H x v) (ry : RV μ H y i) (rd : RV μ H d u) (e : setIt M x y d = some M') (q : ∀ H', Rep T μ H' M' → Grow μ H μ H' → Q H') : rSetA v i u H Q := by
  unfold setIt at e
  cases x with
  | ref m =>
    simp only at e
    obtain ⟨a, rfl, ha⟩ := rx
    cases hm : M[m]? with
    | none => rw [hm] at e; cases e
    | some o =>
      rw [hm] at e
      obtain ⟨a', ha', ro⟩ := R.at hm
      rw [ha] at ha'
      cases ha'
      cases o with
      | lst xs =>
        simp only at e
        obtain ⟨vs, h1, h2, h3⟩ := ro
        cases y with
        | int k =>
          obtain rfl := ry
          simp only at e
          cases hj : ixN xs.length k with
          | none => rw [hj] at e; cases e
          | some j =>
            rw [hj] at e
            obtain rfl := Option.some.inj e
            have hj' := hj
            rw [h3.length] at hj'
            obtain ⟨R', g⟩ := write_lst R ha (h3.set rd j) (by rw [List.length_set]; exact h2)
            exact .inl ⟨a, vs, k, j, rfl, rfl, h1, hj', q _ R' g⟩
        | _ => cases e
      | dK kvs =>
        simp only at e
        obtain ⟨ws, h1, h2, h3⟩ := ro
        cases hk : keyOf y with
        | none => rw [hk] at e; cases e
        | some key =>
          rw [hk] at e
          simp only at e
          split at e
          · rename_i hlt
            obtain rfl := Option.some.inj e
            obtain rfl := key_rv ry hk
            have hlt' : ws.length < sizeLine := by rw [← h3.length, ← big_eq]; exact hlt
            have h4 := h3.put key rd
            have hz : (putK ws key u).length ≤ sizeLine := by
              rw [← h4.length]
              have e5 : (dPut kvs key d).length ≤ kvs.length + 1 := by
                unfold dPut
                split <;> simp
              have := h3.length
              omega
            obtain ⟨R', g⟩ := write_dK R ha h4 hz
            exact .inr ⟨a, _, rfl, DPut.k h1 hlt', q _ R' g⟩
          · cases e
      | dT _ => cases e
      | ins _ _ => cases e
  | _ => cases e
theorem s_sti (C : Conf W n X c) {a b e : E} {o i v : Expr} (hs : sliceB i = false) (ha : PE X o (tD W n Wx a)) (hb : PE X i (tD W n Wx b)) (he : PE X v (tD W n Wx e)) : PS X (.Assign [.Subscript o i p] v pos) (tS W n Wx (.sti a b e)) := by
  have hasg : ∀ v, PySem.assign (.Subscript o i p) X.env v = (do
      let ov ← holding [v] (PySem.eval o X.env)
      let iv ← holding [v, ov] (PySem.eval i X.env)
      standAt p
      holding [v, ov, iv] (setItem ov iv v)
      release [v, ov, iv] []) := fun v => by
    cases i <;> first | rfl | (cases hs; done)
  have hsw : swapsWithSole [.Subscript o i p] v pos.line X.env = pure false := by
    unfold swapsWithSole
    cases v <;> rfl
  have hst : swappedStores [.Subscript o i p] v X.env = pure none := by
    cases v <;> rfl
  refine (ps_asg he (pg_sub ha hb (set_all (by have := C.un; omega)) hasg) hsw hst rfl).weak fun D σ H ⟨μ, ρ, M, R, E, q⟩ => ?_
  simp only [Wd.ex, exec] at q
  refine sD_step R E q fun d M1 v μ1 H1 g R1 E1 rv p => ?_
  refine sD_step R1 E1 p fun d2 M2 v2 μ2 H2 g2 R2 E2 rv2 p2 => ?_
  refine sD_step R2 E2 p2 fun d3 M3 v3 μ3 H3 g3 R3 E3 rv3 p3 => ?_
  cases hx : setIt M3 d2 d3 d with
  | none => rw [hx] at p3; exact p3.elim
  | some M' =>
    rw [hx] at p3
    exact setIt_ok R3 (RV.grow g3 _ _ rv2) rv3 (RV.grow g3 _ _ (RV.grow g2 _ _ rv)) hx fun H' R' g' => p3 μ3 H' σ g' R' (E3.grow g')
/-- X() -/
theorem pmk_own0 {C : Addr} {bmB : List Value} {B newId initId : String} {x : Str} (F : ExcBaseFacts B newId initId bmB) (q : PySem.W.excIn X.K C bmB newId = true) (gC : X.mg x = some (.ref C))
    (kC : PySem.W.keepIn X.K (.ref C) = true) (r : Raises X (.ref C)) (hg : Gl X x) (hdb : (x == ("__debug__" : Str)) = false) : PMk X (.Call (.Name x p) [] [] pos) (fun σ H Q => Q (.ref C) none H) := by
  intro pins s σ H Q I h
  refine wpAny_Call_Name_kw (ld_glob I hg gC ?_ hdb)
  refine PySem.W.callWith_K0 I.kIn kC ?_
  show wpAny _ _ (call (.ref C) []) _ _ _
  obtain ⟨bm, N, nm, qn, bs, hdct, sn, sub, ab, col, dd, k0, k1, k2, k3, k5, mN, hC, hN, hni, T⟩ := exc_obj I.kIn q
  refine wpAny_call_exc_subT F T hC hN hni (fun h' e hm => ?_) (Nat.zero_le _)
  exact mk_of I hm r h (I.hok.gone hm.new)
theorem s_rai (Z : W.Exs) (C : Conf W n X c) (tk : Takes X Wx) {k : Nat} {x : Str} {p2 : Pos} (hc : c.calm = true) (hx : W.tb.excs[k]? = some x) (hg : glB c.sc x = true) : PS X (.Raise (some (.Call (.Name x p) [] [] p2)) none pos) (tS W n Wx (.rai k)) := by
  obtain ⟨B, newId, initId, bmB, F, h1, h2, h3, h4, h5⟩ := Z.exc k x hx
  obtain ⟨g1, g2, g3⟩ := glB_ok C hg
  refine (ps_raise (by rw [C.calm]; exact hc) tk (pmk_own0 F (by rw [C.K]; exact h1) (by rw [C.mg]; exact h2) (by rw [C.K]; exact h3) (raises_own (by rw [C.K]; exact h4) (by rw [C.K]; exact h5)) g1 g2)).weak fun D σ H ⟨μ, ρ, M, R, E, q⟩ => ?_
  exact q μ H σ (Grow.refl _ _) R E
/-! ### try -/
def hdl (W : Wd) (n : Nat) : S → List (Value × (Addr → Value → Option Addr → TS))
  | .hd k h t => (.ref (W.T.xa k), fun _ _ _ => tS W n WxF h) :: hdl W n t
  | _ => []
theorem PostS.noEx (h : PostS W Wx D μ H (noEx f)) : PostS W WxF D μ H f := by
  cases f with
  | ex c ρ M => exact h.elim
  | _ => exact h
theorem hdl_ok (Z : W.Exs) {k' : Nat} : ∀ (h : S), Rep W.T μ H M → REnv μ H σ ρ → PostS W Wx D μ H (execH W.P.gl (callF W.P n) W.P.subAt h k' ρ M) → wMany W.K Wx D (hdl W n h) (.ref (W.T.xa k')) none σ H := by
  intro h
  induction h with
  | hd k h t _ ih =>
    intro R E q
    simp only [execH] at q
    simp only [hdl, wMany]
    cases e : W.P.subAt k' k with
    | none => rw [e] at q; exact q.elim
    | some b =>
      rw [e] at q
      refine ⟨b, Z.exm k' k b e, fun hb a na => ?_, fun hb => ?_⟩
      · subst hb
        exact ⟨μ, ρ, M, R, E, PostS.noEx q⟩
      · subst hb
        exact ih R E q
  | done =>
    intro R E q
    simp only [execH] at q
    exact q μ H σ (Grow.refl _ _) R E
  | _ =>
    intro R E q
    simp only [execH] at q
    exact q.elim
theorem s_try (Z : W.Exs) (C : Conf W n X c) (tk : Takes X Wx) {b h : S} {body : List Stmt} {h0 : ExceptHandler} {hs : List ExceptHandler} (h1 : X.stack = X.env :: X.outer) (h2 : X.env.frame = some X.env.locals)
    (hb : ∀ (Wx' : WX) (pn : List (Addr × Obj)) (xe : Value → Shared → Prop), Takes (X.tr pn xe) Wx' → PassesOwn (model X.prog X.w) X.A X.env xe → PSs (X.tr pn xe) body (tS W n Wx' b)) (hh : HdsOk X (h0 :: hs) (hdl W n h)) :
    PS X (.Try body (h0 :: hs) [] [] pos) (tS W n Wx (.try b h)) := by
  refine (ps_try_many h1 h2 tk hb hh).weak fun D σ H ⟨μ, ρ, M, R, E, q⟩ => ?_
  refine ⟨μ, ρ, M, R, E, ?_⟩
  simp only [Wd.ex, exec] at q ⊢
  cases e : exec W.P.gl (callF W.P n) W.P.subAt b ρ M with
  | ex k ρ' M' =>
    rw [e] at q
    intro μ' H' σ' g R' E'
    rw [C.K]
    exact hdl_ok Z h R' E' (PostS.move g q)
  | nx ρ' M' => rw [e] at q; exact q
  | rt d M' => rw [e] at q; exact q
  | bk ρ' M' => rw [e] at q; exact q
  | ct ρ' M' => rw [e] at q; exact q
  | stuck => rw [e] at q; exact q
theorem Conf.suite (C : Conf W n X c) (a : Addr) (pn : List (Addr × Obj)) : Conf W n (X.suite a pn) { c with calm := false } :=
  ⟨C.pr, C.w, C.K, C.mg, C.base, C.N, C.nd, C.sc, rfl, C.fn, fun h => (nomatch h), C.un⟩
theorem Conf.tr (C : Conf W n X c) (pn : List (Addr × Obj)) (xe : Value → Shared → Prop) : Conf W n (X.tr pn xe) c :=
  ⟨C.pr, C.w, C.K, C.mg, C.base, C.N, C.nd, C.sc, C.calm, C.fn, C.room, C.un⟩
/-! ### name = [..] -/
theorem s_lc (O : W.Ok n) (C : Conf W n X c) (tk : Takes X Wx) {a : E} {t : Tg} {x : Str} {px : Pos} {elt : Expr} {gens : List Comprehension} {scope : Scope} {cp : Pos} (ht : mTg c t (.Name x px) = true) (hsw : swB c x px (.ListComp elt gens scope cp) = true) (hcell : c.sc.names.lookup x = some .local)
    (h : mE W.tb a c (.ListComp elt gens scope cp) = true) : PS X (.Assign [.Name x px] (.ListComp elt gens scope cp) pos) (tS W n Wx (.asg t a)) := by
  cases a <;> simp only [mE] at h <;> first | (cases h; done) | skip
  · rename_i f' as'
    cases f' <;> (simp only [mE] at h; cases h)
  rename_i m own tt k src cd el
  split at h
  · rename_i elt' tg it ifs scope' pos' he
    injection he with e1 e2 e3 e4
    subst e1 e2 e3 e4
    simp only [Bool.and_eq_true] at h
    obtain ⟨⟨⟨⟨⟨⟨h1, h2⟩, h3⟩, h4⟩, h5⟩, h6⟩, h7⟩ := h
    split at h7
    · rename_i es hit
      obtain ⟨pa, p1, _⟩ := (sAll O src).2 X c es Wx C tk h7
      have hi := src_ok O C hit h7 pa p1
      have hc : X.calm = true := by rw [C.calm]; exact h1
      have hmap : (ownB c own).map (·.2) = own := by
        unfold ownB
        rw [List.map_map]
        conv => rhs; rw [← List.map_id own]
        rfl
      have hown : ∀ i ∈ tt.slots, i ∈ own := fun i hi => by
        have := List.all_eq_true.mp h3 i hi
        simpa using this
      have ok : BlkOk X.N X.env.scope scope (ownB c own) := blkOk_by (by rw [C.N, C.sc]; exact h2)
      have hg : ∀ (s : Shared) (H : Hp) (Cc : Addr) (cl : List (Str × Addr)) (fp : List Addr), PG (X.blk s H scope (compEnvC scope cl Cc X.env) fp) tg (gOf X.K tt) := fun s H Cc cl fp => sTg (C.blk s H scope cl Cc fp) tt tg h4
      have hts : ∀ (s : Shared) (H : Hp) (Cc : Addr) (cl : List (Str × Addr)) (fp : List Addr), PTs (X.blk s H scope (compEnvC scope cl Cc X.env) fp) ifs (tC2 W n cd) := fun s H Cc cl fp => by
        unfold tC2
        split at h6
        · rw [h6]; exact pts_nil
        · simp only [Bool.and_eq_true, Bool.not_eq_true'] at h6
          rw [h6.1.1]
          exact pts_one (((sAll O cd).1 _ _ _ WxF (C.blk s H scope cl Cc fp) takes0 h6.2).2.1 h6.1.2)
        · cases h6
      have he : ∀ (s : Shared) (H : Hp) (Cc : Addr) (cl : List (Str × Addr)) (fp : List Addr), PE (X.blk s H scope (compEnvC scope cl Cc X.env) fp) elt (tD W n WxF el) := fun s H Cc cl fp => ((sAll O el).1 _ _ _ WxF (C.blk s H scope cl Cc fp) takes0 h5).1
      simp only [swB] at hsw
      rw [Bool.or_eq_true] at hsw
      rcases hsw with hsw | hsw
      · simp only [decide_eq_true_eq] at hsw
        rw [hcell] at hsw
        cases hsw
      simp only [Bool.and_eq_true, decide_eq_true_eq, Bool.not_eq_true'] at hsw
      obtain ⟨⟨⟨w1, w2⟩, w3⟩, w4⟩ := hsw
      have hk : X.env.scope.kind = .function := by
        rw [C.sc]
        unfold kindF at w1
        split at w1
        · assumption
        · cases w1
      have hxl : X.env.scope.names.lookup x = some .local := by rw [C.sc]; exact w2
      cases t with
      | name i =>
        simp only [mTg, Bool.and_eq_true, decide_eq_true_eq, Bool.or_eq_true] at ht
        refine (ps_setLc (i := i) hc C.nd (by rw [C.N]; exact ht.1.1) hxl (sw_true hk hxl w3 w4) hi ok hg hts he (noSet hit)).weak fun D σ H ⟨μ, ρ, M, R, E, q⟩ => ?_
        rw [hmap]
        have q' := asg_step (K := X.K) R E q
        obtain ⟨μ, ρ, M, R, E, q⟩ := q'
        show tLc (iSrc W n Wx k src) (gOf X.K tt) (tC2 W n cd) (tD W n WxF el) own σ H fun x H1 => gName i x σ H1 D.nx
        refine ⟨μ, ρ, M, R, E, ?_⟩
        simp only [Wd.ev, eval] at q
        refine q.bind fun ds M1 _ p => ?_
        cases hx : items k ds M1 with
        | none => rw [hx] at p; exact p.elim
        | some xs =>
          rw [hx] at p
          refine ⟨xs, rfl, fun μ1 H1 vs J g R1 r wk D' hD => ?_⟩
          exact lc_ok R1 (E.grow g) r wk hx (it_tup hit h4) hown hD (p.move g (mvE μ1 H1 g))
      | _ => simp only [mTg] at ht; cases ht
    · cases h7
  · cases h
/-- name = [..], the name a cell -/
theorem s_asgC (C : Conf W n X c) {a : E} {t : Tg} {x : Str} {px : Pos} {elt : Expr} {gens : List Comprehension} {scope : Scope} {cp : Pos} (ht : mTg c t (.Name x px) = true) (hl : c.sc.names.lookup x ≠ some .local) (ha : PE X (.ListComp elt gens scope cp) (tD W n Wx a)) :
    PS X (.Assign [.Name x px] (.ListComp elt gens scope cp) pos) (tS W n Wx (.asg t a)) := by
  cases t with
  | name i =>
    simp only [mTg, Bool.and_eq_true, decide_eq_true_eq, Bool.or_eq_true] at ht
    have hsw : swapsWith (.ListComp elt gens scope cp) (some (.Name x px)) pos.line X.env = pure false := by
      have k : (X.env.kindOf x == some NameKind.local) = false := by
        have : X.env.kindOf x ≠ some .local := by show X.env.scope.names.lookup x ≠ _; rw [C.sc]; exact hl
        simpa using this
      unfold swapsWith
      simp only [k, Bool.and_false, Bool.false_and]
    refine (ps_set (i := i) C.nd (by rw [C.N]; exact ht.1.1) (by rw [C.sc]; exact locB_ok ht.1.2) ha hsw ?_).weak fun D σ H ⟨μ, ρ, M, R, E, q⟩ => ?_
    · rcases ht.2 with h2 | h2
      · exact .inl (by rw [C.fn]; exact h2)
      · exact .inr (by rw [C.sc]; exact h2)
    · exact (asg_step (K := X.K) R E q : tD W n Wx a σ H fun x H1 => gOf X.K (.name i) x σ H1 D.nx)
  | _ => simp only [mTg] at ht; cases ht
/-! ### all -/
structure SC (W : Wd) (n : Nat) (X : Cx) (c : Cs) (Wx : WX) : Prop where
  C : Conf W n X c
  tk : Takes X Wx
  pw : c.calm = true → PassesOwn (model X.prog X.w) X.A X.env X.xe
  st : c.calm = true → X.stack = X.env :: X.outer
  fr : c.calm = true → X.env.frame = some X.env.locals
def Q1 (W : Wd) (n : Nat) (s : S) : Prop := ∀ X c st Wx, SC W n X c Wx → mS W.tb s c st = true → PS X st (tS W n Wx s)
def Q2 (W : Wd) (n : Nat) (s : S) : Prop := ∀ X c sts Wx, SC W n X c Wx → mSs W.tb s c sts = true → PSs X sts (tS W n Wx s)
def Q3 (W : Wd) (n : Nat) (s : S) : Prop := ∀ X c hs Wx, SC W n X c Wx → mHs W.tb s c hs = true → HdsOk X hs (hdl W n s)
theorem q_asg (O : W.Ok n) (t : Tg) (e : E) : Q1 W n (.asg t e) := fun X c st Wx G h => by
  simp only [mS] at h
  split at h
  · rename_i x px v q
    simp only [Bool.and_eq_true] at h
    by_cases hc : compB v = true
    · cases v <;> first | (cases hc; done) | skip
      · by_cases hcell : c.sc.names.lookup x = some .local
        · exact s_lc O G.C G.tk h.1.1 h.1.2 hcell h.2
        · exact s_asgC G.C h.1.1 hcell ((sAll O e).1 X c _ Wx G.C G.tk h.2).1
      · exact absurd h.1.2 (by simp [swB, compB])
      · exact absurd h.1.2 (by simp [swB, compB])
    · exact s_asgN G.C h.1.1 (by simpa using hc) ((sAll O e).1 X c _ Wx G.C G.tk h.2).1
  · simp only [Bool.and_eq_true, Bool.not_eq_true'] at h
    exact s_asgT G.C h.1.1.1 h.1.2 h.1.1.2 ((sAll O e).1 X c _ Wx G.C G.tk h.2).1
  · cases h
theorem qAll (O : W.Ok n) (Z : W.Exs) : ∀ s : S, Q1 W n s ∧ Q2 W n s ∧ Q3 W n s := by
  have n1 : ∀ {s : S}, (∀ T c st, mS T s c st = false) → Q1 W n s := fun hn X c st Wx G h => by rw [hn] at h; cases h
  have n2 : ∀ {s : S}, (∀ T c st, mSs T s c st = false) → Q2 W n s := fun hn X c st Wx G h => by rw [hn] at h; cases h
  have n3 : ∀ {s : S}, (∀ T c st, mHs T s c st = false) → Q3 W n s := fun hn X c st Wx G h => by rw [hn] at h; cases h
  intro s
  induction s with
  | done =>
    refine ⟨n1 fun _ _ _ => rfl, fun X c sts Wx G h => ?_, fun X c hs Wx G h => ?_⟩
    · cases sts with
      | nil => exact s_done
      | cons _ _ => simp only [mSs] at h; cases h
    · cases hs with
      | nil => exact .nil
      | cons _ _ => simp only [mHs] at h; cases h
  | seq s t hs ht =>
    refine ⟨n1 fun _ _ _ => rfl, fun X c sts Wx G h => ?_, n3 fun _ _ _ => rfl⟩
    cases sts with
    | nil => simp only [mSs] at h; cases h
    | cons st r =>
      simp only [mSs, Bool.and_eq_true] at h
      exact s_seq (hs.1 X c st Wx G h.1) (ht.2.1 X c r Wx G h.2)
  | pass =>
    refine ⟨fun X c st Wx G h => ?_, n2 fun _ _ _ => rfl, n3 fun _ _ _ => rfl⟩
    cases st <;> simp only [mS] at h <;> first | (cases h; done) | exact s_pass
  | brk =>
    refine ⟨fun X c st Wx G h => ?_, n2 fun _ _ _ => rfl, n3 fun _ _ _ => rfl⟩
    cases st <;> simp only [mS] at h <;> first | (cases h; done) | exact s_brk
  | cnt =>
    refine ⟨fun X c st Wx G h => ?_, n2 fun _ _ _ => rfl, n3 fun _ _ _ => rfl⟩
    cases st <;> simp only [mS] at h <;> first | (cases h; done) | exact s_cnt
  | expr e =>
    refine ⟨fun X c st Wx G h => ?_, n2 fun _ _ _ => rfl, n3 fun _ _ _ => rfl⟩
    cases st <;> simp only [mS] at h <;> first | (cases h; done) | skip
    simp only [Bool.and_eq_true, Bool.not_eq_true'] at h
    exact s_expr h.1 ((sAll O e).1 X c _ Wx G.C G.tk h.2).1
  | asg t e => exact ⟨q_asg O t e, n2 fun _ _ _ => rfl, n3 fun _ _ _ => rfl⟩
  | par i j a b =>
    refine ⟨fun X c st Wx G h => ?_, n2 fun _ _ _ => rfl, n3 fun _ _ _ => rfl⟩
    simp only [mS] at h
    split at h
    · simp only [Bool.and_eq_true] at h
      have h0 := h.1.1
      rw [Bool.or_eq_true] at h0
      rcases h0 with hp | hp
      · exact s_par G.C hp ((sAll O a).1 X c _ Wx G.C G.tk h.1.2).1 ((sAll O b).1 X c _ Wx G.C G.tk h.2).1
      · exact s_parC G.C hp ((sAll O a).1 X c _ Wx G.C G.tk h.1.2).1 ((sAll O b).1 X c _ Wx G.C G.tk h.2).1
    · cases h
  | sti a b e =>
    refine ⟨fun X c st Wx G h => ?_, n2 fun _ _ _ => rfl, n3 fun _ _ _ => rfl⟩
    simp only [mS] at h
    split at h
    · simp only [Bool.and_eq_true, Bool.not_eq_true'] at h
      exact s_sti G.C h.1.1.1 ((sAll O a).1 X c _ Wx G.C G.tk h.1.1.2).1 ((sAll O b).1 X c _ Wx G.C G.tk h.1.2).1 ((sAll O e).1 X c _ Wx G.C G.tk h.2).1
    · cases h
  | stf _ _ _ => exact ⟨n1 fun _ _ _ => rfl, n2 fun _ _ _ => rfl, n3 fun _ _ _ => rfl⟩
  | ret e =>
    refine ⟨fun X c st Wx G h => ?_, n2 fun _ _ _ => rfl, n3 fun _ _ _ => rfl⟩
    simp only [mS] at h
    split at h
    · exact s_ret ((sAll O e).1 X c _ Wx G.C G.tk h).1
    · cases h
  | retN =>
    refine ⟨fun X c st Wx G h => ?_, n2 fun _ _ _ => rfl, n3 fun _ _ _ => rfl⟩
    simp only [mS] at h
    split at h
    · exact s_retN
    · cases h
  | ite t a b ha hb =>
    refine ⟨fun X c st Wx G h => ?_, n2 fun _ _ _ => rfl, n3 fun _ _ _ => rfl⟩
    cases st <;> simp only [mS] at h <;> first | (cases h; done) | skip
    simp only [Bool.and_eq_true, Bool.not_eq_true'] at h
    exact s_ite (((sAll O t).1 X c _ Wx G.C G.tk h.1.1.2).2.1 h.1.1.1) (ha.2.1 X c _ Wx G h.1.2) (hb.2.1 X c _ Wx G h.2)
  | «for» t k src b hb =>
    refine ⟨fun X c st Wx G h => ?_, n2 fun _ _ _ => rfl, n3 fun _ _ _ => rfl⟩
    simp only [mS] at h
    split at h
    · simp only [Bool.and_eq_true] at h
      obtain ⟨⟨⟨h1, h2⟩, h3⟩, h4⟩ := h
      split at h3
      · rename_i es hit
        obtain ⟨pa, p1, _⟩ := (sAll O src).2 X c es Wx G.C G.tk h3
        exact s_for O G.C (G.pw h1) h1 h2 hit (src_ok O G.C hit h3 pa p1) (hb.2.1 X c _ Wx G h4)
      · cases h3
    · cases h
  | whl m t b hb =>
    refine ⟨fun X c st Wx G h => ?_, n2 fun _ _ _ => rfl, n3 fun _ _ _ => rfl⟩
    simp only [mS] at h
    split at h
    · simp only [Bool.and_eq_true, Bool.not_eq_true'] at h
      exact s_whl (G.pw h.1.1.1) (((sAll O t).1 X c _ Wx G.C G.tk h.1.2).2.1 h.1.1.2) (hb.2.1 X c _ Wx G h.2)
    · cases h
  | rai k =>
    refine ⟨fun X c st Wx G h => ?_, n2 fun _ _ _ => rfl, n3 fun _ _ _ => rfl⟩
    simp only [mS] at h
    split at h
    · simp only [Bool.and_eq_true, decide_eq_true_eq] at h
      exact s_rai Z G.C G.tk h.1.1 h.1.2 h.2
    · cases h
  | «try» b h hb hh =>
    refine ⟨fun X c st Wx G hm => ?_, n2 fun _ _ _ => rfl, n3 fun _ _ _ => rfl⟩
    simp only [mS] at hm
    split at hm
    · simp only [Bool.and_eq_true] at hm
      obtain ⟨⟨h1, h2⟩, h3⟩ := hm
      exact s_try Z G.C G.tk (G.st h1) (G.fr h1) (fun Wx' pn xe tk' pw' => hb.2.1 (X.tr pn xe) c _ Wx' ⟨G.C.tr pn xe, tk', fun _ => pw', G.st, G.fr⟩ h2) (hh.2.2 X c _ Wx G h3)
    · cases hm
  | hd k h t hh ht =>
    refine ⟨n1 fun _ _ _ => rfl, n2 fun _ _ _ => rfl, fun X c hs Wx G hm => ?_⟩
    simp only [mHs] at hm
    split at hm
    · simp only [Bool.and_eq_true, decide_eq_true_eq] at hm
      obtain ⟨⟨⟨h1, h2⟩, h3⟩, h4⟩ := hm
      obtain ⟨B, newId, initId, bmB, F, e1, e2, e3, e4, e5⟩ := Z.exc k _ h1
      obtain ⟨g1, g2, g3⟩ := glB_ok G.C h2
      simp only [hdl]
      refine .cons ⟨g1, g2, .inl (by rw [G.C.mg]; exact e2)⟩ (fun a oe cls d pn _ _ => ?_) (ht.2.2 X c _ Wx G h4)
      exact hh.2.1 (X.suite a ((a, oe) :: pn)) { c with calm := false } _ WxF ⟨G.C.suite a _, takes0, fun h => (nomatch h), fun h => (nomatch h), fun h => (nomatch h)⟩ h3
    · cases hm
end
end MP

/-! Mp2o: every def does as the interpreter says. -/
namespace MP
open PySem PySem.Spec PyProof.Rows L2
/-- a def of the module as it stands -/
def FnD (W : Wd) (f : Nat) (x : Str) : Prop := ∃ fa fd ps N st fn, W.mg x = some (.ref fa) ∧ FunD W.K x x (defArgs st) (defBody st) (defScope st) [] [] fa fd ∧ Binds W.K fd ps [] ∧ C8.scC N ps (defScope st) = true ∧ W.P.funs[f]? = some fn ∧ ps.length = fn.np ∧ N.length = fn.ns ∧
  mSs W.tb fn.body ⟨N, defScope st, true, fun _ => true⟩ (defBody st) = true
section
variable {W : Wd} {n : Nat} {μ μ' : Mu} {H H' : Hp} {M : Mem}
theorem env_start {ds : List MP.D} {vs : List V} {N : List Str} {k : Nat} (hN : N.length = k) (r : RVs μ H ds vs) : REnv μ H (L2.start N vs) (MP.start k ds) := by
  have hl := r.length
  refine ⟨?_, fun i d e => ?_⟩
  · unfold L2.start MP.start
    simp only [List.length_append, List.length_map, List.length_replicate]
    omega
  · unfold MP.start at e
    unfold L2.start
    by_cases hi : i < ds.length
    · rw [List.getElem?_append_left (by simpa using hi), List.getElem?_map] at e
      cases q : ds[i]? with
      | none => rw [q] at e; cases e
      | some d' =>
        rw [q] at e
        obtain rfl : d' = d := by simpa using e
        obtain ⟨v, e1, e2⟩ := r.get q
        exact ⟨v, by rw [List.getElem?_append_left (by rw [List.length_map]; omega), List.getElem?_map, e1]; rfl, e2⟩
    · rw [List.getElem?_append_right (by simpa using hi), List.getElem?_replicate] at e
      split at e <;> cases e
theorem close_ok {keep : Bool} {d : MP.D} {v : V} {M' : Mem} {Q : VK} (R : Rep W.T μ H M) (g : Grow μ H μ' H') (R' : Rep W.T μ' H' M') (rv : RV μ' H' d v)
    (q : match close keep M d M' with | .ok d M' => Fin W.T μ H d M' Q | .exc _ _ => True | .stuck => False) : Q v H' := by
  unfold close at q
  cases keep with
  | true => exact q v μ' H' g R' rv
  | false =>
    simp only [Bool.false_eq_true, if_false] at q
    split at q
    · rename_i hu
      split at hu
      · rename_i hd
        split at hu
        · rename_i M2 hdr
          injection hu with e1 e2
          subst e1 e2
          obtain ⟨R2, g2⟩ := R.drop g R' hdr
          refine q v μ H' g2 R2 (RV.back ⟨g.pre, g.hid⟩ _ _ rv ?_)
          rw [R.len]
          exact hd
        · cases hu
      · cases hu
    · rename_i hu
      split at hu
      · split at hu <;> cases hu
      · cases hu
    · exact q.elim
theorem body_ok {E : XK} {Q : VK} {keep : Bool} {f : F} (R : Rep W.T μ H M)
    (q : match fin keep M f with | .ok d M' => Fin W.T μ H d M' Q | .exc c M' => ∀ μ' H', Grow μ H μ' H' → Rep W.T μ' H' M' → E (.ref (W.T.xa c)) none H' | .stuck => False) :
    PostS W (fun cls d _ H => E cls d H) { nx := fun _ H' => Q .non H', rt := Q } μ H f := by
  have nx : ∀ d M', (match close keep M d M' with | .ok d M' => Fin W.T μ H d M' Q | .exc c M' => ∀ μ' H', Grow μ H μ' H' → Rep W.T μ' H' M' → E (.ref (W.T.xa c)) none H' | .stuck => False) →
      (match close keep M d M' with | .ok d M' => Fin W.T μ H d M' Q | .exc _ _ => True | .stuck => False) := fun d M' z => by
    split <;> rename_i e <;> rw [e] at z
    · exact z
    · trivial
    · exact z
  cases f with
  | nx ρ M' => exact fun μ' H' σ g R' E' => close_ok (d := .non) (v := .non) R g R' rfl (nx _ _ q)
  | rt d M' => exact fun v μ' H' g R' rv => close_ok R g R' rv (nx _ _ q)
  | bk ρ M' => exact q.elim
  | ct ρ M' => exact q.elim
  | ex c ρ M' =>
    intro μ' H' σ g R' E'
    simp only [fin] at q
    cases keep with
    | true => exact q μ' H' g R'
    | false =>
      simp only [Bool.false_eq_true, if_false] at q
      cases hd : drop M M' with
      | none => rw [hd] at q; exact q.elim
      | some M2 =>
        rw [hd] at q
        obtain ⟨R2, g2⟩ := R.drop g R' hd
        exact q μ H' g2 R2
  | stuck => exact q.elim
theorem fn_at (O : W.Ok n) (Z : W.Exs) {f : Nat} {x : Str} {fa : Addr} {fd : FuncData} {ps N : List Str} {st : Stmt} {fn : Fn} (h2 : FunD W.K x x (defArgs st) (defBody st) (defScope st) [] [] fa fd) (h4 : C8.scC N ps (defScope st) = true) (h5 : W.P.funs[f]? = some fn) (h6 : ps.length = fn.np) (h7 : N.length = fn.ns)
    (h8 : mSs W.tb fn.body ⟨N, defScope st, true, fun _ => true⟩ (defBody st) = true) : FnOk W.pr W.w W.K W.mg W.base (L2.CX W.pr W.w) (2 * (n + 1)) fa fd ps (spF W (n + 1) f) := by
  have S := C8.fnScope_by h4
  refine FunD.ok (k := 2 * n + 1) h2 S (fun vs H Q E ⟨fn', μ, M, ds, e1, e2, R, rv, _⟩ => ?_) fun cdv A outer s H vs Q E hr ⟨fn', μ, M, ds, e1, e2, R, rv, q⟩ => ?_
  · rw [h5] at e1
    cases e1
    rw [← rv.length, e2, h6]
  · rw [h5] at e1
    cases e1
    have e3 : callF W.P (n + 1) f ds M = fin fn.keep M (W.ex n fn.body (MP.start fn.ns ds) M) := by
      simp only [callF, h5, e2, if_true]
    rw [e3] at q
    have C : Conf W n (cxOf (L2.CX W.pr W.w) W.pr W.w W.K W.mg W.base N x (defScope st) fa cdv A outer s H E) ⟨N, defScope st, true, fun _ => true⟩ :=
      ⟨rfl, rfl, rfl, rfl, rfl, rfl, S.nd, rfl, rfl, fun _ => rfl, fun _ => hr, by have := hr.un; show (A.deeper (envOfC x (defScope st) s.heap.objs.size fa cdv)).units + 65 < _; omega⟩
    refine ⟨tS W n (fun cls d _ H => E cls d H) fn.body, (qAll O Z fn.body).2.1 _ _ _ _ ⟨C, takes_of rfl rfl rfl rfl, fun _ => passes_of rfl, fun _ => rfl, fun _ => rfl⟩ h8, ?_⟩
    exact ⟨μ, _, M, R, env_start h7 rv, body_ok R q⟩
theorem fn_ok (O : W.Ok n) (Z : W.Exs) {f : Nat} {x : Str} (F : FnD W f x) : ∃ fa fd ps, W.mg x = some (.ref fa) ∧ PySem.W.keepIn W.K (.ref fa) = true ∧ Binds W.K fd ps [] ∧ FnOk W.pr W.w W.K W.mg W.base (L2.CX W.pr W.w) (2 * (n + 1)) fa fd ps (spF W (n + 1) f) := by
  obtain ⟨fa, fd, ps, N, st, fn, h1, h2, h3, h4, h5, h6, h7, h8⟩ := F
  exact ⟨fa, fd, ps, h1, h2.kp, h3, fn_at O Z h2 h4 h5 h6 h7 h8⟩
theorem ok_all (Z : W.Exs) (hb : ∀ x ∈ bltNames, W.mg x = none) (hf : ∀ f x, W.tb.fns[f]? = some (x, none) → FnD W f x) : ∀ n, W.Ok n
  | 0 => ⟨hb, fun f x h => by
      obtain ⟨fa, fd, ps, N, st, fn, h1, h2, h3, h4, h5, h6, h7, h8⟩ := hf f x h
      have no : ∀ vs H Q E, ¬ spF W 0 f vs H Q E := fun vs H Q E ⟨_, _, _, _, _, _, _, _, q⟩ => q
      exact ⟨fa, fd, ps, h1, h2.kp, h3, ⟨fun vs H Q E h => absurd h (no _ _ _ _), fun A outer s H args us vs Q E _ _ _ _ h => absurd h (no _ _ _ _)⟩⟩⟩
  | n + 1 => ⟨hb, fun f x h => fn_ok (ok_all Z hb hf n) Z (hf f x h)⟩
end
end MP

/-! Mp2p: the head: what stands behind the top, by names; no list among it. -/
namespace MP
open PySem PySem.Spec PyProof.Rows L2
/-! ### the hook -/
def isL (o : Obj) : Bool := match o.cls with
  | .type n => n == "list"
  | _ => false
def frL (g : Addr → Option Obj) (as : List Addr) : PySem.W.Frag := (He.frG g as).filter fun q => !isL q.2
theorem look_fil {p : Addr × Obj → Bool} {a : Addr} {o : Obj} : ∀ {l : List (Addr × Obj)}, (l.filter p).lookup a = some o → (a, o) ∈ l ∧ p (a, o) = true
  | [], h => by cases h
  | (b, u) :: r, h => by
    rw [List.filter_cons] at h
    by_cases hp : p (b, u) = true
    · rw [if_pos hp, List.lookup_cons] at h
      cases q : (a == b) with
      | true =>
        rw [q] at h
        have e1 : a = b := eq_of_beq q
        have e2 : u = o := Option.some.inj h
        subst e1 e2
        exact ⟨List.mem_cons_self .., hp⟩
      | false =>
        rw [q] at h
        obtain ⟨h1, h2⟩ := look_fil h
        exact ⟨List.mem_cons_of_mem _ h1, h2⟩
    · rw [if_neg hp] at h
      obtain ⟨h1, h2⟩ := look_fil h
      exact ⟨List.mem_cons_of_mem _ h1, h2⟩
theorem frL_at {g : Addr → Option Obj} {as : List Addr} {a : Addr} {o : Obj} (h : (frL g as).lookup a = some o) : g a = some o ∧ isL o = false := by
  obtain ⟨h1, h2⟩ := look_fil h
  refine ⟨?_, by simpa using h2⟩
  unfold He.frG at h1
  obtain ⟨b, _, hb⟩ := List.mem_filterMap.mp h1
  cases q : g b with
  | none => rw [q] at hb; cases hb
  | some u =>
    rw [q] at hb
    have e := Option.some.inj hb
    injection e with e1 e2
    subst e1 e2
    exact q
def NoL (K : PySem.W.Frag) : Prop := ∀ a o, K.lookup a = some o → isL o = false
def hookL (n : Nat) (fa : List He.Fa) (fn : List He.DefD) : PySem.W.Hook where
  α := He.AlD
  obs := fun s => He.obsD fa fn (frL s.heap.get? (He.asD s.heap.get? n))
  val := fun _ => He.valD fn
  says := fun _ h => ∃ K : PySem.W.Frag, K.In h ∧ NoL K ∧ He.SaysD fa fn K
  of := fun _ _ e => ⟨_, fun _ _ z => (frL_at z).1, fun _ _ z => (frL_at z).2, e⟩
  keeps := fun _ _ _ ⟨K, hK, nl, c⟩ k => ⟨K, PySem.W.Frag.In.keeps hK k, nl, c⟩
def obL (n : Nat) (fa : List He.Fa) (fn : List He.DefD) (s : PySem.W.SharedT) : He.AlD := He.obsD fa fn (frL (HandSHeadRun.getT s) (He.asD (HandSHeadRun.getT s) n))
theorem obL_eq {n : Nat} {fa : List He.Fa} {fn : List He.DefD} (s : PySem.W.SharedT) : obL n fa fn s = (hookL n fa fn).obs s.abs := by
  have e : HandSHeadRun.getT s = s.abs.heap.get? := funext (HandSHeadRun.getT_eq s)
  unfold obL
  rw [e]
  rfl
/-! ### a program's data -/
/-- a def: its name, its statement, its parameters, its slots -/
structure Df where
  x : Str
  st : Stmt
  ps : List Str
  N : List Str
structure Pk where
  P : Prog
  ds : List Df
  excs : List Str
def Pk.tb (p : Pk) : Tab := ⟨p.ds.map fun d => (d.x, none), [], [], [], p.excs⟩
def exAt (es : List Str) (k : Nat) : Str := es.getD k Str.empty
def exmRow (es : List Str) (i : Nat) : Nat → List Bool → List He.Fa
  | _, [] => []
  | j, b :: r => .exm (exAt es i) (exAt es j) b :: exmRow es i (j + 1) r
def exmAll (es : List Str) : Nat → List (List Bool) → List He.Fa
  | _, [] => []
  | i, r :: rs => exmRow es i 0 r ++ exmAll es (i + 1) rs
theorem exmRow_mem {es : List Str} {i : Nat} {b : Bool} : ∀ {r : List Bool} {j k : Nat}, r[k]? = some b → He.Fa.exm (exAt es i) (exAt es (j + k)) b ∈ exmRow es i j r
  | [], _, _, h => by simp at h
  | c :: r, j, 0, h => by
    simp at h
    subst h
    exact List.mem_cons_self ..
  | c :: r, j, k + 1, h => by
    have := exmRow_mem (es := es) (i := i) (j := j + 1) (k := k) (by simpa using h)
    rw [show j + 1 + k = j + (k + 1) by omega] at this
    exact List.mem_cons_of_mem _ this
theorem exmAll_mem {es : List Str} {b : Bool} {row : List Bool} {k : Nat} (hk : row[k]? = some b) : ∀ {rs : List (List Bool)} {i m : Nat}, rs[m]? = some row → He.Fa.exm (exAt es (i + m)) (exAt es k) b ∈ exmAll es i rs
  | [], _, _, h => by simp at h
  | r :: rs, i, 0, h => by
    simp at h
    subst h
    have := exmRow_mem (es := es) (i := i) (j := 0) hk
    rw [Nat.zero_add] at this
    exact List.mem_append_left _ this
  | r :: rs, i, m + 1, h => by
    have := exmAll_mem hk (es := es) (i := i + 1) (m := m) (by simpa using h)
    rw [show i + 1 + m = i + (m + 1) by omega] at this
    exact List.mem_append_right _ this
def Pk.fa (p : Pk) : List He.Fa := (p.ds.map fun d => .glo d.x) ++ ((p.excs.map fun x => .glo x) ++ ((p.excs.map fun x => .exc x) ++ (exmAll p.excs 0 p.P.sub ++ bltNames.map fun x => .free x)))
def Pk.dd (p : Pk) : List He.DefD := p.ds.map fun d => ⟨(d.x, none), d.x, d.x, defArgs d.st, defBody d.st, defScope d.st, [], []⟩
/-- the text is the interpreter's -/
def chkAll (T : Tab) : List Df → List Fn → Bool
  | [], _ => true
  | d :: r, fs => (match fs with
    | f :: fs => C8.scC d.N d.ps (defScope d.st) && decide (d.ps.length = f.np) && decide (d.N.length = f.ns) && mSs T f.body ⟨d.N, defScope d.st, true, fun _ => true⟩ (defBody d.st) && chkAll T r fs
    | [] => false)
def bindAll : List Df → Prop
  | [] => True
  | d :: r => (∀ (kV doc pm : Value) (an : Option Addr) (cdv ct : Value) (us : List Value), us.length = d.ps.length → bindArgs (PySem.W.fnOf d.x d.x (defArgs d.st) (defBody d.st) (defScope d.st) .none kV doc pm an cdv ct) ⟨us, []⟩ = pure (d.ps.zip us)) ∧ bindAll r
def Pk.wd (p : Pk) (pr : Program) (w : World) (K : PySem.W.Frag) (mg : Str → Option Value) (base : Heap) : Wd := ⟨⟨fun _ => 0, fun _ => Str.empty, fun k => He.ga K (exAt p.excs k)⟩, p.P, p.tb, pr, w, K, mg, base⟩
theorem chk_at {T : Tab} : ∀ {ds : List Df} {fs : List Fn} {i : Nat} {d : Df}, chkAll T ds fs = true → ds[i]? = some d → ∃ f, fs[i]? = some f ∧ C8.scC d.N d.ps (defScope d.st) = true ∧ d.ps.length = f.np ∧ d.N.length = f.ns ∧ mSs T f.body ⟨d.N, defScope d.st, true, fun _ => true⟩ (defBody d.st) = true
  | [], _, _, _, _, h => by simp at h
  | d :: r, [], _, _, h, _ => by cases h
  | d :: r, f :: fs, 0, d', h, e => by
    simp only [chkAll, Bool.and_eq_true, decide_eq_true_eq] at h
    simp at e
    subst e
    exact ⟨f, rfl, h.1.1.1.1, h.1.1.1.2, h.1.1.2, h.1.2⟩
  | d :: r, f :: fs, i + 1, d', h, e => by
    simp only [chkAll, Bool.and_eq_true] at h
    obtain ⟨g, e1, e2⟩ := chk_at (i := i) h.2 (by simpa using e)
    exact ⟨g, by simpa using e1, e2⟩
theorem bind_at : ∀ {ds : List Df} {i : Nat} {d : Df}, bindAll ds → ds[i]? = some d → (∀ (kV doc pm : Value) (an : Option Addr) (cdv ct : Value) (us : List Value), us.length = d.ps.length → bindArgs (PySem.W.fnOf d.x d.x (defArgs d.st) (defBody d.st) (defScope d.st) .none kV doc pm an cdv ct) ⟨us, []⟩ = pure (d.ps.zip us))
  | [], _, _, _, h => by simp at h
  | d :: r, 0, d', h, e => by
    simp at e
    subst e
    exact h.1
  | d :: r, i + 1, d', h, e => bind_at (i := i) h.2 (by simpa using e)
section
variable {p : Pk} {pr : Program} {w : World} {K : PySem.W.Frag} {mg : Str → Option Value} {h base : Heap}
theorem says_fact {fa : List He.Fa} {fn : List He.DefD} (c : He.SaysD fa fn K) {f : He.Fa} (hf : f ∈ fa) : f.ok K = true := by
  obtain ⟨i, hi⟩ := List.getElem?_of_mem hf
  exact c.fact i hi
theorem pk_def (c : He.SaysD p.fa p.dd K) (bd : bindAll p.ds) {i : Nat} {d : Df} (hd : p.ds[i]? = some d) : ∃ fd, FunD K d.x d.x (defArgs d.st) (defBody d.st) (defScope d.st) [] [] (He.ga K d.x) fd := by
  have hd' : p.dd[i]? = some ⟨(d.x, none), d.x, d.x, defArgs d.st, defBody d.st, defScope d.st, [], []⟩ := by
    unfold Pk.dd
    rw [List.getElem?_map, hd]
    rfl
  exact c.def_ i hd'
theorem pk_exs (X : K.In h) (G : h.Ns mainGlobals mg) (c : He.SaysD p.fa p.dd K) : (p.wd pr w K mg base).Exs := by
  refine ⟨fun k x hx => ?_, fun k' k b hb => ?_⟩
  · have hx : p.excs[k]? = some x := hx
    have hm : x ∈ p.excs := List.mem_of_getElem? hx
    have e : exAt p.excs k = x := by
      unfold exAt
      rw [List.getD_eq_getElem?_getD, hx]
      rfl
    have f1 := says_fact c (f := .glo x) (List.mem_append_right _ (List.mem_append_left _ (List.mem_map.mpr ⟨x, hm, rfl⟩)))
    have f2 := says_fact c (f := .exc x) (List.mem_append_right _ (List.mem_append_right _ (List.mem_append_left _ (List.mem_map.mpr ⟨x, hm, rfl⟩))))
    obtain ⟨h1, h2, h3, h4⟩ := He.exc_ok f2
    refine ⟨"ValueError", "ValueError.__new__", "ValueError.__init__", He.veBase, PySem.F.excBase_ValueError, ?_⟩
    show PySem.W.excIn K (He.ga K (exAt p.excs k)) He.veBase "ValueError.__new__" = true ∧ _
    rw [show (p.wd pr w K mg base).T.xa k = He.ga K x by show He.ga K (exAt p.excs k) = _; rw [e], e]
    exact ⟨h1, He.glo_ok X G f1, h2, h3, h4⟩
  · have hb : p.P.subAt k' k = some b := hb
    unfold Prog.subAt at hb
    cases q : p.P.sub[k']? with
    | none => rw [q] at hb; cases hb
    | some row =>
      rw [q] at hb
      have hm := exmAll_mem (es := p.excs) (i := 0) hb q
      rw [Nat.zero_add] at hm
      exact He.exm_ok (says_fact c (List.mem_append_right _ (List.mem_append_right _ (List.mem_append_right _ (List.mem_append_left _ hm)))))
theorem pk_ok (X : K.In h) (G : h.Ns mainGlobals mg) (c : He.SaysD p.fa p.dd K) (bd : bindAll p.ds) (ck : chkAll p.tb p.ds p.P.funs = true) (n : Nat) : (p.wd pr w K mg base).Ok n := by
  refine ok_all (pk_exs X G c) (fun x hx => ?_) (fun f x hf => ?_) n
  · exact He.free_ok X G (says_fact c (List.mem_append_right _ (List.mem_append_right _ (List.mem_append_right _ (List.mem_append_right _ (List.mem_map.mpr ⟨x, hx, rfl⟩))))))
  · have hf : (p.ds.map fun d => (d.x, (none : Option Str)))[f]? = some (x, none) := hf
    rw [List.getElem?_map] at hf
    cases q : p.ds[f]? with
    | none => rw [q] at hf; cases hf
    | some d =>
      rw [q] at hf
      obtain rfl : d.x = x := by injection hf with hf; injection hf
      obtain ⟨fd, F⟩ := pk_def c bd q
      obtain ⟨g, e1, e2, e3, e4, e5⟩ := chk_at ck q
      have f1 := says_fact c (f := .glo d.x) (List.mem_append_left _ (List.mem_map.mpr ⟨d, List.mem_of_getElem? q, rfl⟩))
      exact ⟨He.ga K d.x, fd, d.ps, d.N, d.st, g, He.glo_ok X G f1, F, F.bindsN (bind_at bd q), e2, e1, e3, e4, e5⟩
/-- the law's def: its function object, how it binds, its promise -/
theorem pk_law (nl : NoL K) (X : K.In h) (G : h.Ns mainGlobals mg) (c : He.SaysD p.fa p.dd K) (bd : bindAll p.ds) (ck : chkAll p.tb p.ds p.P.funs = true) {m n i : Nat} {d : Df} {a : Addr} {y : Str} (hd : p.ds[i]? = some d) (hps : d.ps = [y]) (ha : mg d.x = some (.ref a))
    (plain : ∀ ns : List Int, ns.length ≤ m → ∃ M', callF p.P (n + 1) i [.lst (ns.map MP.D.int)] [] = .ok (.bl true) M') (hm : m ≤ sizeLine) :
    ∃ (fd : FuncData) (sp : Sp), (∀ (s : Shared) (u : Value), BindsTo s fd ⟨[u], []⟩ [(y, u)]) ∧ (∀ (H : Hp) (b : Addr) (ns : List Int), ns.length ≤ m → SqL K H b (ns.map V.int) → sp [.ref b] H (fun v _ => v = .bl true) fun _ _ _ => False) ∧
      ∀ base : Heap, K.In base → base.Ns mainGlobals mg → FnOk pr w K mg base (L2.CX pr w) (2 * (n + 1)) a fd [y] sp := by
  obtain ⟨fd, F⟩ := pk_def c bd hd
  have f1 := says_fact c (f := .glo d.x) (List.mem_append_left _ (List.mem_map.mpr ⟨d, List.mem_of_getElem? hd, rfl⟩))
  have ea := ha.symm.trans (He.glo_ok X G f1)
  cases ea
  have hW : ∀ base : Heap, spF (p.wd pr w K mg base) (n + 1) i = spF (p.wd pr w K mg h) (n + 1) i := fun _ => rfl
  refine ⟨fd, spF (p.wd pr w K mg h) (n + 1) i, fun s u => ?_, fun H b ns hl hS => ?_, fun base kb gb => ?_⟩
  · have := FunD.bindsA F (bind_at bd hd) s [u] (by rw [hps]; rfl)
    rw [hps] at this
    exact this
  · obtain ⟨g, e1, e2, e3, e4, e5⟩ := chk_at ck hd
    obtain ⟨M', e⟩ := plain ns hl
    refine ⟨g, ⟨[], []⟩, [], [.lst (ns.map MP.D.int)], e1, by rw [← e3, hps]; rfl, ⟨by simp, rfl, fun i a o hi _ => by simp at hi, fun a ha => by simp at ha⟩, ⟨.ref b, [], rfl, ⟨b, ns.map V.int, rfl, fun z => ?_, ?_, ?_, rvs_ints ns⟩, rfl⟩, ?_⟩
    · rcases z with z | z <;> exact absurd z (by simp)
    · rcases hS with hS | ⟨o, its, k, lk, cl, _⟩
      · exact hS
      · have := nl b o lk
        unfold isL at this
        rw [cl] at this
        cases this
    · rw [List.length_map]; omega
    · show match callF p.P (n + 1) i [.lst (ns.map MP.D.int)] [] with | .ok d M' => Fin _ _ H d M' _ | .exc _ _ => _ | .stuck => False
      rw [e]
      intro v μ' H' _ _ rv
      exact rv
  · have O := pk_ok (pr := pr) (w := w) (base := base) kb gb c bd ck n
    obtain ⟨g, e1, e2, e3, e4, e5⟩ := chk_at ck hd
    have r := fn_at (f := i) O (pk_exs kb gb c) F e2 e1 e3 e4 e5
    rw [hps] at r
    exact r
end
end MP
namespace MP
open PySem PySem.Spec PyProof.Rows L2
/-- the goal that the head leaves, from the law's def -/
theorem walkX {l : PySem.W.OpenLaw} {m k : Nat} {q : Program} {loose : List Str} {XP : (Str → Option Value) → Heap → Prop} {YP : World → Heap → Prop} {d : DefRec} {y : Str} (hm : l.most = some m) (hz : m ≤ sizeLine) (hd : d.params.defaults = []) (hr : Room k callerA)
    (F : ∀ (w : World) (mg : Str → Option Value) (a : Addr) (h : Heap), YP w h → h.Ns mainGlobals mg → mg d.name = some (.ref a) → ∃ (K : PySem.W.Frag), K.In h ∧ ∃ (fd : FuncData) (sp : Sp), (∀ (s : Shared) (u : Value), BindsTo s fd ⟨[u], []⟩ [(y, u)]) ∧
      (∀ (H : Hp) (b : Addr) (ns : List Int), ns.length ≤ m → SqL K H b (ns.map V.int) → sp [.ref b] H (fun v _ => v = .bl true) fun _ _ _ => False) ∧ ∀ base : Heap, K.In base → base.Ns mainGlobals mg → FnOk l.prog w K mg base (L2.CX l.prog w) k a fd [y] sp) :
    PySem.W.WalkO q loose XP YP l.row.toRowW d [] (fun f vs => PySem.call f vs) :=
  Att.attach_call hm hd fun w s0 s1 mg mb a ob pm cd doc b vs ns GG Y0 hob hdd hcc hmg hlist hints hlen hgens => by
    obtain ⟨K, kx, fd, sp, hb, hsp, hF⟩ := F w mg a _ Y0 GG.T.g hmg
    refine law_call kx GG.T.g GG.T.b GG.T.builtins GG.T.nolimit hgens hlist hints (Nat.le_trans hlen hz) hr hF hb (fun H _ hS => hsp H b ns hlen hS) fun H e s2 z => ?_
    obtain ⟨_, _, _, _, _, _, _, _, _, _, _, _, z⟩ := z
    exact z
theorem pk_hc {p : Pk} {l : PySem.W.OpenLaw} {m n i : Nat} {q : Program} {loose : List Str} {XP : (Str → Option Value) → Heap → Prop} {dr : DefRec} {d : Df} {y : Str} (hm : l.most = some m) (hz : m ≤ sizeLine) (hdr : dr.params.defaults = []) (hr : Room (2 * (n + 1)) callerA)
    (bd : bindAll p.ds) (ck : chkAll p.tb p.ds p.P.funs = true) (hi : p.ds[i]? = some d) (hps : d.ps = [y]) (hx : dr.name = d.x) (plain : ∀ ns : List Int, ns.length ≤ m → ∃ M', callF p.P (n + 1) i [.lst (ns.map MP.D.int)] [] = .ok (.bl true) M') :
    PySem.W.WalkO q loose XP (hookL 4 p.fa p.dd).says l.row.toRowW dr [] (fun f vs => PySem.call f vs) := by
  refine walkX (y := y) hm hz hdr hr fun w mg a h ⟨K, kx, nl, c⟩ G ha => ⟨K, kx, ?_⟩
  rw [hx] at ha
  exact pk_law (pr := l.prog) (w := w) nl kx G c bd ck hi hps ha plain hz
end MP

/-! Mp3a: plain lemmas about the interpreter: calls, loops, comprehensions; the drawing functions of every law. -/
namespace MP
/-! ### calls -/
theorem callF_eq {P : Prog} {n f : Nat} {fn : Fn} {ds : List D} {M : Mem} (h : P.funs[f]? = some fn) (hl : ds.length = fn.np) : callF P (n + 1) f ds M = fin fn.keep M (exec P.gl (callF P n) P.subAt fn.body (start fn.ns ds) M) := by
  simp only [callF, h, hl, if_true]
theorem drop_same (M : Mem) : drop M M = some M := by
  unfold drop
  rw [List.take_length, if_pos rfl]
theorem drop_app (M L : Mem) : drop M (M ++ L) = some M := by
  unfold drop
  rw [List.take_left, if_pos rfl]
theorem drop_new {M M' : Mem} (hl : M'.length = M.length) (h : M'.all (MO.under M.length) = true) : drop M M' = some M' := by
  have e : M'.take M.length = M' := by rw [← hl]; exact List.take_length
  unfold drop
  rw [e]
  by_cases q : M' = M
  · rw [if_pos q, q]
  · rw [if_neg q, if_pos h]
mutual
/-- no reference within -/
def D.flat : D → Bool
  | .ref _ => false
  | .tup xs => D.flatL xs
  | .lst xs => D.flatL xs
  | _ => true
def D.flatL : List D → Bool
  | [] => true
  | x :: xs => D.flat x && D.flatL xs
end
mutual
theorem under_flat {k : Nat} : ∀ d : D, d.flat = true → d.under k = true
  | .non, _ => rfl
  | .bl _, _ => rfl
  | .int _, _ => rfl
  | .str _, _ => rfl
  | .tup xs, h => by simp only [D.under]; exact underL_flat xs (by simpa [D.flat] using h)
  | .lst xs, h => by simp only [D.under]; exact underL_flat xs (by simpa [D.flat] using h)
  | .ref _, h => by simp [D.flat] at h
theorem underL_flat {k : Nat} : ∀ ds : List D, D.flatL ds = true → D.underL k ds = true
  | [], _ => rfl
  | d :: ds, h => by
    simp only [D.flatL, Bool.and_eq_true] at h
    simp only [D.underL, under_flat d h.1, underL_flat ds h.2, Bool.and_self]
end
theorem fin_same {M : Mem} {d : D} (h : d.flat = true) : fin false M (.rt d M) = .ok d M := by
  simp [fin, close, under_flat d h, drop_same]
theorem fin_app {M L : Mem} {d : D} (h : d.flat = true) : fin false M (.rt d (M ++ L)) = .ok d M := by
  simp [fin, close, under_flat d h, drop_app]
theorem fin_ex {M L : Mem} {c : Nat} {ρ : Env} : fin false M (.ex c ρ (M ++ L)) = .exc c M := by
  simp [fin, drop_app]
theorem flatL_map_int (ns : List Int) : D.flatL (ns.map D.int) = true := by
  induction ns with
  | nil => rfl
  | cons n ns ih => simp [D.flatL, D.flat, ih]
theorem flatL_append (a b : List D) : D.flatL (a ++ b) = (D.flatL a && D.flatL b) := by
  induction a with
  | nil => rfl
  | cons x a ih => simp [D.flatL, ih, Bool.and_assoc]
/-! ### loops -/
theorem forL_ind {ds : List D} {M0 : Mem} {g : D → Env → Mem → F} (I : List D → Env → Mem → Prop)
    (hs : ∀ x r ρ M, I (x :: r) ρ M → still ds M0 M = true ∧ ∃ ρ' M', (g x ρ M = .nx ρ' M' ∨ g x ρ M = .ct ρ' M') ∧ I r ρ' M') (he : ∀ ρ M, I [] ρ M → still ds M0 M = true) :
    ∀ (xs : List D) (ρ : Env) (M : Mem), I xs ρ M → ∃ ρ' M', forL ds M0 g xs ρ M = .nx ρ' M' ∧ I [] ρ' M'
  | [], ρ, M, h => ⟨ρ, M, by simp [forL, he ρ M h], h⟩
  | x :: xs, ρ, M, h => by
    obtain ⟨h1, ρ1, M1, h2, h3⟩ := hs x xs ρ M h
    obtain ⟨ρ2, M2, h4, h5⟩ := forL_ind I hs he xs ρ1 M1 h3
    refine ⟨ρ2, M2, ?_, h5⟩
    rcases h2 with h2 | h2 <;> simp only [forL, h1, if_true, h2, h4]
theorem whlL_ind {c : Env → Mem → R Bool} {g : Env → Mem → F} (I : Nat → Env → Mem → Prop) (Q : F → Prop) :
    ∀ (fuel k : Nat) (ρ : Env) (M : Mem), k < fuel →
    (∀ k ρ M, I k ρ M → (∃ M', c ρ M = .ok false M' ∧ Q (.nx ρ M')) ∨ ∃ M', c ρ M = .ok true M' ∧ ((∃ ρ2 M2 k', (g ρ M' = .nx ρ2 M2 ∨ g ρ M' = .ct ρ2 M2) ∧ k' < k ∧ I k' ρ2 M2) ∨ (∃ ρ2 M2, g ρ M' = .bk ρ2 M2 ∧ Q (.nx ρ2 M2)) ∨ (∃ d M2, g ρ M' = .rt d M2 ∧ Q (.rt d M2)) ∨ ∃ e ρ2 M2, g ρ M' = .ex e ρ2 M2 ∧ Q (.ex e ρ2 M2))) →
    I k ρ M → Q (whlL c g fuel ρ M)
  | 0, _, _, _, h, _, _ => by omega
  | fuel + 1, k, ρ, M, hk, hs, h => by
    unfold whlL
    rcases hs k ρ M h with ⟨M', e, q⟩ | ⟨M', e, h2⟩
    · simp only [e, R.toF_ok, Bool.false_eq_true, if_false]; exact q
    · simp only [e, R.toF_ok, if_true]
      rcases h2 with ⟨ρ2, M2, k', e2, hlt, i2⟩ | ⟨ρ2, M2, e2, q⟩ | ⟨d, M2, e2, q⟩ | ⟨x, ρ2, M2, e2, q⟩
      · have r := whlL_ind I Q fuel k' ρ2 M2 (by omega) hs i2
        rcases e2 with e2 | e2 <;> simp only [e2] <;> exact r
      · simp only [e2]; exact q
      · simp only [e2]; exact q
      · simp only [e2]; exact q
theorem compL_pure {ds : List D} {M0 M : Mem} {g : D → Mem → R (Option D)} {h : D → Option D} (hst : still ds M0 M = true) : ∀ (xs acc : List D), (∀ x ∈ xs, g x M = .ok (h x) M) → compL ds M0 g xs acc M = .ok (acc ++ xs.filterMap h) M
  | [], acc, _ => by simp [compL, hst]
  | x :: xs, acc, hg => by
    have e := hg x (List.mem_cons_self ..)
    have r := fun acc => compL_pure hst xs acc (fun y hy => hg y (List.mem_cons_of_mem _ hy))
    simp only [compL, hst, if_true, e]
    cases q : h x with
    | none => simp only [r]; rw [List.filterMap_cons_none q]
    | some d => simp only [r]; rw [List.filterMap_cons_some q]; simp
theorem still_same (ds : List D) (M : Mem) : still ds M M = true := by
  unfold still
  rw [List.all_eq_true]
  intro d _
  cases d <;> simp
/-! ### the draws -/
def drawB : S :=
  (.seq (.expr (.bm .append (.var 1) (.cons (.cst (.int 0)) .nil)))
  (.seq (.asg (.name 3) (.blt .len (.cons (.var 1) .nil)))
  (.seq (.asg (.name 4) (.cst (.int 0)))
  (.seq (.ite (.var 0)
    (.seq (.asg (.name 4) (.idx (.var 0) (.bin .mod (.var 3) (.blt .len (.cons (.var 0) .nil)))))
    .done)
    .done)
  (.seq (.asg (.name 5) (.bin .mod (.bin (.add false) (.var 4) (.bin (.mul false) (.cst (.int 104729)) (.var 3))) (.cst (.int 4294967291))))
  (.seq (.asg (.name 5) (.bin .mod (.bin (.mul false) (.bin .mod (.bin (.mul false) (.var 5) (.var 5)) (.cst (.int 4294967279))) (.cst (.int 48271))) (.cst (.int 4294967291))))
  (.seq (.asg (.name 6) (.bin .mod (.bin (.mul false) (.bin .mod (.bin (.mul false) (.var 5) (.var 5)) (.cst (.int 4294967279))) (.cst (.int 69621))) (.cst (.int 4294967291))))
  (.seq (.ret (.bin .mod (.bin (.add false) (.bin (.mul false) (.bin .fdiv (.var 5) (.cst (.int 64))) (.cst (.int 67108864))) (.bin .fdiv (.var 6) (.cst (.int 64)))) (.var 2)))
  .done))))))))
def cellV (ns : List Int) (k : Nat) : Int := if ns = [] then 0 else ns.getD (k % ns.length) 0
def num1 (ns : List Int) (k : Nat) : Int := (cellV ns k + 104729 * (k : Int)) % 4294967291
def num2 (ns : List Int) (k : Nat) : Int := num1 ns k * num1 ns k % 4294967279 * 48271 % 4294967291
def num3 (ns : List Int) (k : Nat) : Int := num2 ns k * num2 ns k % 4294967279 * 69621 % 4294967291
/-- the (t+1)-th draw below many -/
def drawV (ns : List Int) (t : Nat) (many : Int) : Int := (num2 ns (t + 1) / 64 * 67108864 + num3 ns (t + 1) / 64) % many
theorem drawV_lo {ns : List Int} {t : Nat} {many : Int} (h : 0 < many) : 0 ≤ drawV ns t many := Int.emod_nonneg _ (by omega)
theorem drawV_hi {ns : List Int} {t : Nat} {many : Int} (h : 0 < many) : drawV ns t many < many := Int.emod_lt_of_pos _ h
theorem small_mod (x : Int) : small64 (x % 4294967291) = true := by
  have h1 := Int.emod_nonneg x (show (4294967291 : Int) ≠ 0 by decide)
  have h2 := Int.emod_lt_of_pos x (show (0 : Int) < 4294967291 by decide)
  exact decide_eq_true ⟨by omega, by omega⟩
abbrev zs (t : Nat) : List D := List.replicate t (.int 0)
theorem zs_flat : ∀ t, D.flatL (zs t) = true
  | 0 => rfl
  | t + 1 => by simp [zs, List.replicate_succ, D.flatL, D.flat, zs_flat t]
theorem exec_seq {gl : Nat → Option D} {cf : CF} {sub : Nat → Nat → Option Bool} {s t : S} {ρ ρ' : Env} {M M' : Mem} (h : exec gl cf sub s ρ M = .nx ρ' M') : exec gl cf sub (.seq s t) ρ M = exec gl cf sub t ρ' M' := by
  simp only [exec, h]
theorem exec_seq_rt {gl : Nat → Option D} {cf : CF} {sub : Nat → Nat → Option Bool} {s t : S} {ρ : Env} {d : D} {M M' : Mem} (h : exec gl cf sub s ρ M = .rt d M') : exec gl cf sub (.seq s t) ρ M = .rt d M' := by
  simp only [exec, h]
theorem exec_seq_ex {gl : Nat → Option D} {cf : CF} {sub : Nat → Nat → Option Bool} {s t : S} {ρ ρ' : Env} {c : Nat} {M M' : Mem} (h : exec gl cf sub s ρ M = .ex c ρ' M') : exec gl cf sub (.seq s t) ρ M = .ex c ρ' M' := by
  simp only [exec, h]
theorem atI_mod {ns : List Int} {k : Nat} (h : ns ≠ []) : L2.atI (ns.map D.int) ((k : Int) % ((ns.map D.int).length : Int)) = some (.int (cellV ns k)) := by
  have hl : 0 < ns.length := List.length_pos_iff.mpr h
  have hk : k % ns.length < ns.length := Nat.mod_lt _ hl
  unfold L2.atI L2.ixN
  have e : ((k : Int) % ((ns.map D.int).length : Int)) = ((k % ns.length : Nat) : Int) := by simp
  rw [e]
  rw [if_pos (by omega), if_pos (by rw [List.length_map]; omega), Int.toNat_natCast]
  show (ns.map D.int)[k % ns.length]? = _
  rw [List.getElem?_map, List.getElem?_eq_getElem hk]
  simp [cellV, h, hk]
theorem draw_ok {P : Prog} {n dI : Nat} (hf : P.funs[dI]? = some ⟨3, 7, false, drawB⟩) (ns : List Int) (t : Nat) (ht : t < 1000000) {many : Int} (hm : 0 < many) {L : Mem} (hL : L.all (MO.under (L.length + 1)) = true) :
    callF P (n + 1) dI [.lst (ns.map D.int), .ref 0, .int many] (.lst (zs t) :: L) = .ok (.int (drawV ns t many)) (.lst (zs (t + 1)) :: L) := by
  rw [callF_eq hf rfl]
  have hb : t < big := by unfold big; omega
  have e0 : zs t ++ [D.int 0] = zs (t + 1) := by simp [zs, List.replicate_succ']
  have key : exec P.gl (callF P n) P.subAt drawB (start 7 [.lst (ns.map D.int), .ref 0, .int many]) (.lst (zs t) :: L) = .rt (.int (drawV ns t many)) (.lst (zs (t + 1)) :: L) := by
    have s1 : ∀ x : Int, small64 (x % 4294967291) = true := small_mod
    have fin6 : ∀ c : Int, c = cellV ns (t + 1) → exec P.gl (callF P n) P.subAt
        (.seq (.asg (.name 5) (.bin .mod (.bin (.add false) (.var 4) (.bin (.mul false) (.cst (.int 104729)) (.var 3))) (.cst (.int 4294967291))))
        (.seq (.asg (.name 5) (.bin .mod (.bin (.mul false) (.bin .mod (.bin (.mul false) (.var 5) (.var 5)) (.cst (.int 4294967279))) (.cst (.int 48271))) (.cst (.int 4294967291))))
        (.seq (.asg (.name 6) (.bin .mod (.bin (.mul false) (.bin .mod (.bin (.mul false) (.var 5) (.var 5)) (.cst (.int 4294967279))) (.cst (.int 69621))) (.cst (.int 4294967291))))
        (.seq (.ret (.bin .mod (.bin (.add false) (.bin (.mul false) (.bin .fdiv (.var 5) (.cst (.int 64))) (.cst (.int 67108864))) (.bin .fdiv (.var 6) (.cst (.int 64)))) (.var 2)))
        .done)))) [some (.lst (ns.map D.int)), some (.ref 0), some (.int many), some (.int ((t + 1 : Nat) : Int)), some (.int c), none, none] (.lst (zs (t + 1)) :: L) = .rt (.int (drawV ns t many)) (.lst (zs (t + 1)) :: L) := by
      intro c hc
      subst hc
      have k1 : small64 104729 = true := by decide
      have k2 : small64 48271 = true := by decide
      have k3 : small64 69621 = true := by decide
      have k4 : small64 67108864 = true := by decide
      simp [exec, eval, op2, asg, k1, k2, k3, k4, s1, hm, R.toF, R.bind, drawV, num1, num2, num3]
    refine (exec_seq (ρ' := [some (.lst (ns.map D.int)), some (.ref 0), some (.int many), none, none, none, none]) (M' := .lst (zs (t + 1)) :: L) ?_).trans ?_
    · simp [exec, eval, evalL, bmOk, bmF, start, hb, ← e0]
    refine (exec_seq (ρ' := [some (.lst (ns.map D.int)), some (.ref 0), some (.int many), some (.int ((t + 1 : Nat) : Int)), none, none, none]) (M' := .lst (zs (t + 1)) :: L) ?_).trans ?_
    · simp [exec, eval, evalL, bltF, asg]
    refine (exec_seq (ρ' := [some (.lst (ns.map D.int)), some (.ref 0), some (.int many), some (.int ((t + 1 : Nat) : Int)), some (.int 0), none, none]) (M' := .lst (zs (t + 1)) :: L) rfl).trans ?_
    refine (exec_seq (ρ' := [some (.lst (ns.map D.int)), some (.ref 0), some (.int many), some (.int ((t + 1 : Nat) : Int)), some (.int (cellV ns (t + 1))), none, none]) (M' := .lst (zs (t + 1)) :: L) ?_).trans (fin6 _ rfl)
    by_cases hn : ns = []
    · subst hn
      simp [exec, eval, toTest, truth, cellV]
    · have hl : 0 < ns.length := List.length_pos_iff.mpr hn
      have ha := atI_mod (k := t + 1) hn
      have h1 : (0 : Int) < ((ns.map D.int).length : Int) := by rw [List.length_map]; omega
      simp only [exec, eval, evalL, toTest, truth, List.getElem?_cons_zero, List.getElem?_cons_succ, R.bind_ok, bltF, op2, h1, if_true, idx, atD, ha, R.toF_ok, asg]
      simp [hn]
  rw [key]
  simp only [fin, close]
  have hu : (D.int (drawV ns t many)).under (MO.lst (zs t) :: L).length = true := rfl
  rw [hu]
  simp only [if_true, Bool.false_eq_true, if_false]
  rw [drop_new]
  · simp
  · simp only [List.all_cons, Bool.and_eq_true, List.length_cons]
    exact ⟨underL_flat _ (zs_flat _), hL⟩
end MP

/-! Mp3s: steps of the interpreter, by what the parts give. -/
namespace MP
section
variable {gl : Nat → Option D} {cf : CF} {sub : Nat → Nat → Option Bool} {ρ ρ' : Env} {M M1 M2 M3 : Mem} {a b c e as : E} {x y d : D} {ds xs ys : List D} {s t : S} {r : R D} {k : ItK} {tg : Tg} {own : List Nat} {m : Bool} {f : Nat}
theorem ev_tup (h : evalL gl cf as ρ M = .ok ds M1) (hl : ds.length ≤ big) : eval gl cf (.tup as) ρ M = .ok (.tup ds) M1 := by simp only [eval, h, R.bind_ok, hl, if_true]
theorem ev_bin {op : Op2} (h1 : eval gl cf a ρ M = .ok x M1) (h2 : eval gl cf b ρ M1 = .ok y M2) : eval gl cf (.bin op a b) ρ M = op2 op x y M2 := by simp only [eval, h1, h2, R.bind_ok]
theorem ev_not {v : Bool} (h : eval gl cf a ρ M = .ok x M1) (ht : truth M1 x = some v) : eval gl cf (.not a) ρ M = .ok (.bl !v) M1 := by simp only [eval, h, R.bind_ok, ht, Option.map_some, R.ofB_some]
theorem ev_andT (h1 : eval gl cf a ρ M = .ok x M1) (ht : truth M1 x = some true) : eval gl cf (.and a b) ρ M = eval gl cf b ρ M1 := by simp only [eval, h1, R.bind_ok, ht]
theorem ev_andF (h1 : eval gl cf a ρ M = .ok x M1) (ht : truth M1 x = some false) : eval gl cf (.and a b) ρ M = .ok x M1 := by simp only [eval, h1, R.bind_ok, ht]
theorem ev_orT (h1 : eval gl cf a ρ M = .ok x M1) (ht : truth M1 x = some true) : eval gl cf (.or a b) ρ M = .ok x M1 := by simp only [eval, h1, R.bind_ok, ht]
theorem ev_orF (h1 : eval gl cf a ρ M = .ok x M1) (ht : truth M1 x = some false) : eval gl cf (.or a b) ρ M = eval gl cf b ρ M1 := by simp only [eval, h1, R.bind_ok, ht]
theorem ev_call (h : evalL gl cf as ρ M = .ok ds M1) : eval gl cf (.call f as) ρ M = cf f ds M1 := by simp only [eval, h, R.bind_ok]
theorem ev_blt {g : B} (h : evalL gl cf as ρ M = .ok ds M1) : eval gl cf (.blt g as) ρ M = bltF g ds M1 := by simp only [eval, h, R.bind_ok]
theorem ev_idx (h1 : eval gl cf a ρ M = .ok x M1) (h2 : eval gl cf b ρ M1 = .ok y M2) : eval gl cf (.idx a b) ρ M = idx M2 x y := by simp only [eval, h1, h2, R.bind_ok]
theorem ev_bm {g : BM} (h1 : eval gl cf a ρ M = .ok x M1) (h2 : bmOk g M1 x = true) (h3 : evalL gl cf as ρ M1 = .ok ds M2) : eval gl cf (.bm g a as) ρ M = bmF g x ds M2 := by simp only [eval, h1, h2, h3, R.bind_ok, if_true]
theorem ev_nil : evalL gl cf .nil ρ M = .ok [] M := rfl
theorem ev_cons (h1 : eval gl cf a ρ M = .ok x M1) (h2 : evalL gl cf as ρ M1 = .ok ds M2) : evalL gl cf (.cons a as) ρ M = .ok (x :: ds) M2 := by simp only [evalL, h1, h2, R.bind_ok]
/-- a turn of a comprehension -/
def compT (gl : Nat → Option D) (cf : CF) (tg : Tg) (ρw : Env) (c e : E) (x : D) (M : Mem) : R (Option D) := match asg tg x ρw with
  | some ρ' => (if c.isNil then .ok true M else (eval gl cf c ρ' M).bind toTest).bind fun b M => if b then (eval gl cf e ρ' M).bind fun d M => .ok (some d) M else .ok none M
  | none => .stuck
theorem ev_comp (h1 : evalL gl cf as ρ M = .ok ds M1) (h2 : items k ds M1 = some xs) (h3 : compL ds M1 (compT gl cf tg (wipe ρ own) c e) xs [] M1 = .ok ys M2) : eval gl cf (.comp m own tg k as c e) ρ M = newL m ys M2 := by
  simp only [eval, h1, R.bind_ok, h2]
  show ((compL ds M1 (compT gl cf tg (wipe ρ own) c e) xs [] M1).bind fun ys M => newL m ys M) = _
  rw [h3]
  rfl
/-- .. without a test -/
theorem compT_one {ρw : Env} (h1 : asg tg x ρw = some ρ') (h2 : eval gl cf e ρ' M = .ok d M1) : compT gl cf tg ρw .nil e x M = .ok (some d) M1 := by simp only [compT, h1, E.isNil, if_true, R.bind_ok, h2]
theorem compT_yes {ρw : Env} (hc : c.isNil = false) (h1 : asg tg x ρw = some ρ') (h2 : eval gl cf c ρ' M = .ok y M1) (ht : truth M1 y = some true) (h3 : eval gl cf e ρ' M1 = .ok d M2) : compT gl cf tg ρw c e x M = .ok (some d) M2 := by
  simp only [compT, h1, hc, Bool.false_eq_true, if_false, h2, R.bind_ok, toTest, ht, if_true, h3]
theorem compT_no {ρw : Env} (hc : c.isNil = false) (h1 : asg tg x ρw = some ρ') (h2 : eval gl cf c ρ' M = .ok y M1) (ht : truth M1 y = some false) : compT gl cf tg ρw c e x M = .ok none M1 := by
  simp only [compT, h1, hc, Bool.false_eq_true, if_false, h2, R.bind_ok, toTest, ht]
theorem ex_asg (h : eval gl cf e ρ M = .ok x M1) (ha : asg tg x ρ = some ρ') : exec gl cf sub (.asg tg e) ρ M = .nx ρ' M1 := by simp only [exec, h, R.toF_ok, ha]
theorem ex_par {i j : Nat} (h1 : eval gl cf a ρ M = .ok x M1) (h2 : eval gl cf b ρ M1 = .ok y M2) : exec gl cf sub (.par i j a b) ρ M = .nx ((ρ.set i (some x)).set j (some y)) M2 := by simp only [exec, h1, h2, R.toF_ok]
theorem ex_expr (h : eval gl cf e ρ M = .ok x M1) : exec gl cf sub (.expr e) ρ M = .nx ρ M1 := by simp only [exec, h, R.toF_ok]
theorem ex_ret (h : eval gl cf e ρ M = .ok x M1) : exec gl cf sub (.ret e) ρ M = .rt x M1 := by simp only [exec, h, R.toF_ok]
theorem ex_ifT (h : eval gl cf c ρ M = .ok x M1) (ht : truth M1 x = some true) : exec gl cf sub (.ite c s t) ρ M = exec gl cf sub s ρ M1 := by simp only [exec, h, R.bind_ok, toTest, ht, R.toF_ok, if_true]
theorem ex_ifF (h : eval gl cf c ρ M = .ok x M1) (ht : truth M1 x = some false) : exec gl cf sub (.ite c s t) ρ M = exec gl cf sub t ρ M1 := by simp only [exec, h, R.bind_ok, toTest, ht, R.toF_ok, Bool.false_eq_true, if_false]
/-- a turn of a for -/
def forT (gl : Nat → Option D) (cf : CF) (sub : Nat → Nat → Option Bool) (tg : Tg) (s : S) (x : D) (ρ : Env) (M : Mem) : F := match asg tg x ρ with
  | some ρ' => exec gl cf sub s ρ' M
  | none => .stuck
theorem ex_for (h1 : evalL gl cf as ρ M = .ok ds M1) (h2 : items k ds M1 = some xs) : exec gl cf sub (.for tg k as s) ρ M = forL ds M1 (forT gl cf sub tg s) xs ρ M1 := by
  simp only [exec, h1, R.toF_ok, h2]
  rfl
theorem ex_whl {m : Nat} : exec gl cf sub (.whl m c s) ρ M = whlL (fun ρ M => (eval gl cf c ρ M).bind toTest) (fun ρ M => exec gl cf sub s ρ M) m ρ M := by rw [exec]
theorem forT_eq (h : asg tg x ρ = some ρ') : forT gl cf sub tg s x ρ M = exec gl cf sub s ρ' M := by simp only [forT, h]
end
end MP

/-! Mp3b: the picks, and that a thing is the same as itself. -/
namespace MP
def pickB (dI : Nat) : S :=
  (.seq (.ret (.idx (.var 2) (.call dI (.cons (.var 0) (.cons (.var 1) (.cons (.blt .len (.cons (.var 2) .nil)) .nil))))))
  .done)
def pickV (ns : List Int) (t : Nat) (xs : List D) : D := xs.getD (drawV ns t (xs.length : Nat)).toNat .non
theorem atI_nat {α : Type} {xs : List α} {i : Int} (h0 : 0 ≤ i) (h1 : i < (xs.length : Nat)) (d : α) : L2.atI xs i = some (xs.getD i.toNat d) := by
  unfold L2.atI L2.ixN
  rw [if_pos h0, if_pos h1]
  have : i.toNat < xs.length := by omega
  simp [this]
theorem pickV_mem {ns : List Int} {t : Nat} {xs : List D} (h : xs ≠ []) : pickV ns t xs ∈ xs := by
  have hl : (0 : Int) < (xs.length : Nat) := by have := List.length_pos_iff.mpr h; omega
  have h0 := drawV_lo (ns := ns) (t := t) hl
  have h1 := drawV_hi (ns := ns) (t := t) hl
  have h2 : (drawV ns t (xs.length : Nat)).toNat < xs.length := by omega
  unfold pickV
  rw [List.getD_eq_getElem?_getD, List.getElem?_eq_getElem h2]
  exact List.getElem_mem h2
theorem flat_mem : ∀ {xs : List D} {x : D}, D.flatL xs = true → x ∈ xs → x.flat = true
  | y :: ys, x, h, hx => by
    simp only [D.flatL, Bool.and_eq_true] at h
    rcases List.mem_cons.mp hx with rfl | hx
    · exact h.1
    · exact flat_mem h.2 hx
theorem pick_ok {P : Prog} {n dI pI : Nat} (hd : P.funs[dI]? = some ⟨3, 7, false, drawB⟩) (hp : P.funs[pI]? = some ⟨3, 3, false, pickB dI⟩) (ns : List Int) (t : Nat) (ht : t < 1000000) {xs : List D} (hx : xs ≠ []) (hfl : D.flatL xs = true) {L : Mem} (hL : L.all (MO.under (L.length + 1)) = true)
    {d : D} (hdx : d = .lst xs ∨ d = .tup xs) : callF P (n + 2) pI [.lst (ns.map D.int), .ref 0, d] (.lst (zs t) :: L) = .ok (pickV ns t xs) (.lst (zs (t + 1)) :: L) := by
  have hl : (0 : Int) < (xs.length : Nat) := by have := List.length_pos_iff.mpr hx; omega
  have e1 := draw_ok (n := n) hd ns t ht hl hL
  have e2 := atI_nat (xs := xs) (drawV_lo (ns := ns) (t := t) hl) (drawV_hi (ns := ns) (t := t) hl) .non
  rw [callF_eq hp rfl]
  have key : exec P.gl (callF P (n + 1)) P.subAt (pickB dI) (start 3 [.lst (ns.map D.int), .ref 0, d]) (.lst (zs t) :: L) = .rt (pickV ns t xs) (.lst (zs (t + 1)) :: L) := by
    refine exec_seq_rt ?_
    rcases hdx with rfl | rfl <;> (simp only [exec, eval, evalL, start, List.map_cons, List.map_nil, List.length_cons, List.length_nil, List.cons_append, List.nil_append, List.replicate, List.getElem?_cons_succ, List.getElem?_cons_zero, R.bind_ok, bltF, e1, idx, atD, e2, R.toF_ok]; rfl)
  rw [key]
  simp only [fin, close, Bool.false_eq_true, if_false]
  rw [under_flat _ (flat_mem hfl (pickV_mem hx)), if_pos rfl, drop_new]
  · simp
  · simp only [List.all_cons, Bool.and_eq_true, List.length_cons]
    exact ⟨underL_flat _ (zs_flat _), hL⟩
/-! ### the same -/
def sameB (sI : Nat) : S :=
  (.seq (.ite (.isN false (.var 1))
    (.seq (.ret (.isN false (.var 0)))
    .done)
    .done)
  (.seq (.ite (.isi (.var 1) .bool)
    (.seq (.ret (.and (.isi (.var 0) .bool) (.cmp .Eq (.var 0) (.var 1))))
    .done)
    .done)
  (.seq (.ite (.isi (.var 1) .tuple)
    (.seq (.ite (.or (.not (.isi (.var 0) .tuple)) (.cmp .NotEq (.blt .len (.cons (.var 0) .nil)) (.blt .len (.cons (.var 1) .nil))))
      (.seq (.ret (.cst (.bl false)))
      .done)
      .done)
    (.seq (.ret (.blt .all (.cons (.comp false [2, 3] (.tup (.cons (.name 2) (.cons (.name 3) .nil))) .zip (.cons (.var 0) (.cons (.var 1) .nil)) .nil (.call sI (.cons (.var 2) (.cons (.var 3) .nil)))) .nil)))
    .done))
    .done)
  (.seq (.ite (.isi (.var 1) .str)
    (.seq (.ret (.and (.isi (.var 0) .str) (.cmp .Eq (.var 0) (.var 1))))
    .done)
    .done)
  (.seq (.ret (.and (.isi (.var 0) .int) (.and (.not (.isi (.var 0) .bool)) (.cmp .Eq (.var 0) (.var 1)))))
  .done)))))
mutual
/-- None, bool, int, str, tuples of such -/
def D.tree : D → Bool
  | .tup xs => D.treeL xs
  | .lst _ => false
  | .ref _ => false
  | _ => true
def D.treeL : List D → Bool
  | [] => true
  | x :: xs => D.tree x && D.treeL xs
end
theorem tree_mem : ∀ {xs : List D} {x : D}, D.treeL xs = true → x ∈ xs → x.tree = true
  | y :: ys, x, h, hx => by
    simp only [D.treeL, Bool.and_eq_true] at h
    rcases List.mem_cons.mp hx with rfl | hx
    · exact h.1
    · exact tree_mem h.2 hx
theorem depth_mem : ∀ {xs : List D} {x : D}, x ∈ xs → x.depth ≤ D.depthL xs
  | y :: ys, x, hx => by
    simp only [D.depthL]
    rcases List.mem_cons.mp hx with rfl | hx
    · exact Nat.le_max_left _ _
    · exact Nat.le_trans (depth_mem hx) (Nat.le_max_right _ _)
theorem bls_rep : ∀ k : Nat, blsOf (List.replicate k (D.bl true)) = some (List.replicate k true)
  | 0 => rfl
  | k + 1 => by simp [List.replicate_succ, blsOf, bls_rep k]
theorem zip_self (xs : List D) : List.zipWith (fun x y => D.tup [x, y]) xs xs = xs.map fun x => D.tup [x, x] := by
  induction xs with
  | nil => rfl
  | cons x xs ih => simp [ih]
theorem same_refl {P : Prog} {sI : Nat} (hs : P.funs[sI]? = some ⟨2, 4, false, sameB sI⟩) : ∀ (n : Nat) (d : D) (M : Mem), d.tree = true → d.depth < n → callF P n sI [d, d] M = .ok (.bl true) M
  | 0, _, _, _, h => by omega
  | n + 1, d, M, ht, hn => by
    rw [callF_eq hs rfl]
    have key : exec P.gl (callF P n) P.subAt (sameB sI) (start 4 [d, d]) M = .rt (.bl true) M := by
      cases d with
      | non => rfl
      | bl b => cases b <;> rfl
      | int i =>
        refine (exec_seq rfl).trans ((exec_seq rfl).trans ((exec_seq rfl).trans ((exec_seq rfl).trans (exec_seq_rt ?_))))
        show F.rt (.bl (decide (i = i))) M = _
        rw [decide_eq_true rfl]
      | str s =>
        refine (exec_seq rfl).trans ((exec_seq rfl).trans ((exec_seq rfl).trans (exec_seq_rt ?_)))
        show F.rt (.bl (decide (s = s))) M = _
        rw [decide_eq_true rfl]
      | lst _ => simp [D.tree] at ht
      | ref _ => simp [D.tree] at ht
      | tup xs =>
        have hc : ∀ x ∈ xs, ∀ M, callF P n sI [x, x] M = .ok (.bl true) M := fun x hx M => same_refl hs n x M (tree_mem (by simpa [D.tree] using ht) hx) (by have := depth_mem hx; simp only [D.depth] at hn; omega)
        have hcomp : compL [D.tup xs, D.tup xs] M (compT P.gl (callF P n) (.tup (.cons (.name 2) (.cons (.name 3) .nil))) (wipe (start 4 [.tup xs, .tup xs]) [2, 3]) .nil (.call sI (.cons (.var 2) (.cons (.var 3) .nil)))) (xs.map fun x => D.tup [x, x]) [] M = .ok ([] ++ (xs.map fun x => D.tup [x, x]).filterMap fun _ => some (.bl true)) M := by
          refine compL_pure (still_same _ _) _ _ fun y hy => ?_
          obtain ⟨x, hx, rfl⟩ := List.mem_map.mp hy
          exact compT_one rfl ((ev_call rfl).trans (hc x hx M))
        have e1 : ∀ zs : List D, (zs.map fun x => D.tup [x, x]).filterMap (fun _ => some (D.bl true)) = List.replicate zs.length (D.bl true) := fun zs => by
          induction zs with
          | nil => rfl
          | cons x zs ih => simp only [List.map_cons, List.filterMap_cons, ih]; rfl
        rw [e1, List.nil_append] at hcomp
        refine (exec_seq (ρ' := start 4 [.tup xs, .tup xs]) (M' := M) rfl).trans ?_
        refine (exec_seq (ρ' := start 4 [.tup xs, .tup xs]) (M' := M) rfl).trans ?_
        refine exec_seq_rt ((ex_ifT rfl rfl).trans ?_)
        refine (exec_seq (ρ' := start 4 [.tup xs, .tup xs]) (M' := M) ?_).trans ?_
        · refine ex_ifF (x := .bl (!decide ((xs.length : Int) = xs.length))) rfl ?_
          rw [decide_eq_true rfl]
          rfl
        · refine exec_seq_rt (ex_ret ((ev_blt (ev_cons (ev_comp (xs := xs.map fun x => D.tup [x, x]) rfl ?_ hcomp) ev_nil)).trans ?_))
          · show (if (true == true) = true then some (List.zipWith (fun x y => D.tup [x, y]) xs xs) else none) = _
            rw [zip_self]
            rfl
          · show (match blsOf (List.replicate xs.length (D.bl true)) with | some bs => R.ok (D.bl (bs.all id)) M | none => .stuck) = _
            rw [bls_rep]
            show R.ok (D.bl ((List.replicate xs.length true).all id)) M = _
            rw [show (List.replicate xs.length true).all id = true by simp]
    rw [key]
    exact fin_same rfl
end MP

/-! Mp4a: rows and ties; what waits gives. -/
namespace MP
abbrev Tie := Int × Bool
abbrev Rw := Int × List Tie
def tieD (p : Tie) : D := .tup [.int p.1, .bl p.2]
def tiesD (l : List Tie) : D := .tup (l.map tieD)
def rowD (r : Rw) : D := .tup [.int r.1, tiesD r.2]
def rowsD (rs : List Rw) : D := .tup (rs.map rowD)
def kvs (L : List Rw) : List (Key × D) := L.map fun r => (.inl r.1, tiesD r.2)
def keys (L : List Rw) : List Int := L.map (·.1)
def getR (L : List Rw) (k : Int) : List Tie := ((L.find? fun r => decide (r.1 = k)).map (·.2)).getD []
/-- o is waited on by these ties -/
def waitOn (ties : List Tie) (strict : Bool) (o : Int) : Bool := ties.contains (o, true) || (!strict && ties.contains (o, false))
def waitsV (L : List Rw) (k : Int) (strict : Bool) : List Int := (sortI (keys L)).filter (waitOn (getR L k) strict)
def intsD (l : List Int) : D := .tup (l.map D.int)
/-! ### plain data -/
theorem plainL_ints (l : List Int) : D.plainL (l.map D.int) = true := by
  induction l with
  | nil => rfl
  | cons a l ih => simp [D.plainL, D.plain, ih]
theorem depthL_ints (l : List Int) : D.depthL (l.map D.int) = 0 := by
  induction l with
  | nil => rfl
  | cons a l ih => simp [D.depthL, D.depth, ih]
theorem plainL_ties (l : List Tie) : D.plainL (l.map tieD) = true := by
  induction l with
  | nil => rfl
  | cons a l ih => simp [D.plainL, D.plain, tieD, ih]
theorem depth_tie (p : Tie) : (tieD p).depth = 1 := by simp [tieD, D.depth, D.depthL]
theorem depthL_ties (l : List Tie) : D.depthL (l.map tieD) ≤ 1 := by
  induction l with
  | nil => simp [D.depthL]
  | cons a l ih => simp only [List.map_cons, D.depthL, depth_tie]; omega
theorem good_tie (p : Tie) : (tieD p).good = true := by simp [D.good, tieD, D.plain, D.plainL, D.depth, D.depthL]
theorem good_ties (l : List Tie) : (tiesD l).good = true := by
  have := depthL_ties l
  simp only [D.good, tiesD, D.plain, plainL_ties, D.depth, Bool.true_and, decide_eq_true_eq]
  omega
theorem good_ints (l : List Int) : (intsD l).good = true := by
  simp [D.good, intsD, D.plain, plainL_ints, D.depth, depthL_ints]
theorem good_lints (l : List Int) : (D.lst (l.map D.int)).good = true := by
  simp [D.good, D.plain, plainL_ints, D.depth, depthL_ints]
theorem eqv_tie (p q : Tie) : (tieD p).eqv (tieD q) = decide (p = q) := by
  obtain ⟨a, x⟩ := p
  obtain ⟨b, y⟩ := q
  simp only [tieD, D.eqv, D.eqvL, Bool.and_true, Prod.mk.injEq]
  cases x <;> cases y <;> simp
theorem any_ties (l : List Tie) (p : Tie) : ((l.map tieD).any fun z => z.eqv (tieD p)) = l.contains p := by
  induction l with
  | nil => rfl
  | cons a l ih =>
    rw [List.map_cons, List.any_cons, ih, eqv_tie, List.contains_cons]
    congr 1
    by_cases h : a = p
    · subst h; simp
    · have h2 : (p == a) = false := by simpa using fun e => h e.symm
      rw [h2, decide_eq_false h]
theorem in_ties (M : Mem) (l : List Tie) (p : Tie) : isIn M (tieD p) (tiesD l) = some (l.contains p) := by
  show (if (tieD p).good && (D.tup (l.map tieD)).good then some ((l.map tieD).any fun z => z.eqv (tieD p)) else none) = _
  rw [any_ties, good_tie, show (D.tup (l.map tieD)).good = true from good_ties l]
  rfl
theorem eqvL_nil (l : List Int) : D.eqvL (l.map D.int) [] = l.isEmpty := by cases l <;> rfl
theorem eq_nil (M : Mem) (l : List Int) : eqD M (intsD l) (.tup []) = some l.isEmpty := by
  show (if (intsD l).good && (D.tup []).good then some (D.eqvL (l.map D.int) []) else none) = _
  rw [eqvL_nil, good_ints]
  rfl
theorem eqvL_ints : ∀ (a b : List Int), D.eqvL (a.map D.int) (b.map D.int) = decide (a = b)
  | [], [] => rfl
  | [], _ :: _ => rfl
  | _ :: _, [] => rfl
  | x :: a, y :: b => by
    simp only [List.map_cons, D.eqvL, D.eqv, eqvL_ints a b, List.cons.injEq]
    by_cases h1 : x = y <;> by_cases h2 : a = b <;> simp [h1, h2]
theorem flat_ties (l : List Tie) : (tiesD l).flat = true := by
  simp only [tiesD, D.flat]
  induction l with
  | nil => rfl
  | cons a l ih => simp [D.flatL, D.flat, tieD, ih]
theorem flat_ints (l : List Int) : (intsD l).flat = true := by
  simp only [intsD, D.flat]; exact flatL_map_int l
theorem tree_ints (l : List Int) : (intsD l).tree = true := by
  simp only [intsD, D.tree]
  induction l with
  | nil => rfl
  | cons a l ih => simp [D.treeL, D.tree, ih]
/-! ### the dict -/
theorem kints_kvs (L : List Rw) : kintsOf (kvs L) = some (keys L) := by
  unfold kvs keys
  induction L with
  | nil => rfl
  | cons r L ih => simp [kintsOf, ih]
theorem dGet_kvs (L : List Rw) (k : Int) : dGet (kvs L) (.inl k) = (L.find? fun r => decide (r.1 = k)).map fun r => tiesD r.2 := by
  unfold dGet kvs
  induction L with
  | nil => rfl
  | cons r L ih =>
    rw [List.map_cons, List.find?_cons, List.find?_cons]
    by_cases h : r.1 = k
    · simp [h]
    · simp only [h, Sum.inl.injEq, decide_false]
      exact ih
theorem dGet_in {L : List Rw} {k : Int} (h : k ∈ keys L) : dGet (kvs L) (.inl k) = some (tiesD (getR L k)) := by
  rw [dGet_kvs]
  unfold getR
  cases q : L.find? (fun r => decide (r.1 = k)) with
  | some r => rfl
  | none =>
    obtain ⟨r, hr, e⟩ := List.mem_map.mp h
    have := List.find?_eq_none.mp q r hr
    simp [e] at this
theorem dGet_out {L : List Rw} {k : Int} (h : k ∉ keys L) : dGet (kvs L) (.inl k) = none := by
  rw [dGet_kvs]
  cases q : L.find? (fun r => decide (r.1 = k)) with
  | none => rfl
  | some r =>
    have h1 := List.find?_some q
    have h2 := List.mem_of_find?_eq_some q
    exact absurd (List.mem_map.mpr ⟨r, h2, by simpa using h1⟩) h
theorem drop_kvs (L : List Rw) (k : Int) : dDrop (kvs L) (.inl k) = kvs (L.filter fun r => decide (r.1 ≠ k)) := by
  unfold dDrop kvs
  rw [List.filter_map]
  congr 1
  refine List.filter_congr fun r _ => ?_
  simp
theorem in_dict {M : Mem} {r : Nat} {L : List Rw} (hr : M[r]? = some (.dK (kvs L))) (k : Int) : isIn M (.int k) (.ref r) = some (decide (k ∈ keys L)) := by
  simp only [isIn, hr, look, keyOf, Option.map_some]
  by_cases h : k ∈ keys L
  · rw [dGet_in h, decide_eq_true h]; rfl
  · rw [dGet_out h, decide_eq_false h]; rfl
theorem idx_dict {M : Mem} {r : Nat} {L : List Rw} (hr : M[r]? = some (.dK (kvs L))) {k : Int} (h : k ∈ keys L) : idx M (.ref r) (.int k) = .ok (tiesD (getR L k)) M := by
  simp only [idx, hr, look, keyOf, Option.map_some, dGet_in h]
theorem sorted_dict {M : Mem} {r : Nat} {L : List Rw} (hr : M[r]? = some (.dK (kvs L))) : sorted M (.ref r) = some ((sortI (keys L)).map D.int) := by
  simp only [sorted, hr, kints_kvs, Option.map_some]
theorem mem_sort {l : List Int} {k : Int} : k ∈ sortI l ↔ k ∈ l := (sortI_perm l).mem_iff
/-! ### waits -/
def waitsB : S :=
  (.seq (.asg (.name 3) (.lst true .nil))
  (.seq (.for (.name 4) .seq (.cons (.blt (.sorted false) (.cons (.var 0) .nil)) .nil)
    (.seq (.ite (.or (.cmp .In (.tup (.cons (.var 4) (.cons (.cst (.bl true)) .nil))) (.idx (.var 0) (.var 1))) (.and (.not (.var 2)) (.cmp .In (.tup (.cons (.var 4) (.cons (.cst (.bl false)) .nil))) (.idx (.var 0) (.var 1)))))
      (.seq (.expr (.bm .append (.var 3) (.cons (.var 4) .nil)))
      .done)
      .done)
    .done))
  (.seq (.ret (.blt .tuple (.cons (.var 3) .nil)))
  .done)))
theorem get_app {M L : Mem} {r : Nat} {o : MO} (h : M[r]? = some o) : (M ++ L)[r]? = some o := by
  rw [List.getElem?_append_left (List.getElem?_eq_some_iff.mp h).1]; exact h
theorem get_end (M : Mem) (o : MO) : (M ++ [o])[M.length]? = some o := by simp
theorem set_end (M : Mem) (o o' : MO) : (M ++ [o]).set M.length o' = M ++ [o'] := by
  rw [List.set_append_right _ _ (Nat.le_refl _)]; simp
theorem bmOk_end {M : Mem} {A : List D} : bmOk .append (M ++ [.lst A]) (.ref M.length) = true := by
  simp only [bmOk, get_end]
  rfl
theorem app_end {M : Mem} {A : List D} {d : D} (h : A.length < big) : bmF .append (.ref M.length) [d] (M ++ [.lst A]) = .ok .non (M ++ [.lst (A ++ [d])]) := by
  simp only [bmF, get_end, h, if_true, set_end]
theorem waits_ok {P : Prog} {n wI : Nat} (hw : P.funs[wI]? = some ⟨3, 5, false, waitsB⟩) {M : Mem} {r : Nat} {L : List Rw} {k : Int} {strict : Bool} (hr : M[r]? = some (.dK (kvs L))) (hk : k ∈ keys L) (hL : L.length ≤ 1000) :
    callF P (n + 1) wI [.ref r, .int k, .bl strict] M = .ok (intsD (waitsV L k strict)) M := by
  rw [callF_eq hw rfl]
  have hsl : (sortI (keys L)).length ≤ 1000 := by rw [(sortI_perm _).length_eq]; simpa [keys] using hL
  have key : exec P.gl (callF P n) P.subAt waitsB (start 5 [.ref r, .int k, .bl strict]) M = .rt (intsD (waitsV L k strict)) (M ++ [.lst ((waitsV L k strict).map D.int)]) := by
    refine (exec_seq (ρ' := [some (.ref r), some (.int k), some (.bl strict), some (.ref M.length), none]) (M' := M ++ [.lst []]) rfl).trans ?_
    have hr1 : ∀ X, (M ++ X)[r]? = some (.dK (kvs L)) := fun X => get_app hr
    -- the loop
    have hfor : ∃ ρ' M', exec P.gl (callF P n) P.subAt (.for (.name 4) .seq (.cons (.blt (.sorted false) (.cons (.var 0) .nil)) .nil)
        (.seq (.ite (.or (.cmp .In (.tup (.cons (.var 4) (.cons (.cst (.bl true)) .nil))) (.idx (.var 0) (.var 1))) (.and (.not (.var 2)) (.cmp .In (.tup (.cons (.var 4) (.cons (.cst (.bl false)) .nil))) (.idx (.var 0) (.var 1)))))
          (.seq (.expr (.bm .append (.var 3) (.cons (.var 4) .nil))) .done) .done) .done)) [some (.ref r), some (.int k), some (.bl strict), some (.ref M.length), none] (M ++ [.lst []]) = .nx ρ' M' ∧
        (∃ v, ρ' = [some (.ref r), some (.int k), some (.bl strict), some (.ref M.length), v]) ∧ M' = M ++ [.lst ((waitsV L k strict).map D.int)] := by
      have hsrc : evalL P.gl (callF P n) (.cons (.blt (.sorted false) (.cons (.var 0) .nil)) .nil) [some (.ref r), some (.int k), some (.bl strict), some (.ref M.length), none] (M ++ [.lst []]) = .ok [.lst ((sortI (keys L)).map D.int)] (M ++ [.lst []]) := by
        refine ev_cons ((ev_blt rfl).trans ?_) ev_nil
        show (match sorted (M ++ [MO.lst []]) (.ref r) with | some xs => newL false xs (M ++ [MO.lst []]) | none => .stuck) = _
        rw [sorted_dict (hr1 _)]
        rfl
      rw [ex_for (xs := (sortI (keys L)).map D.int) hsrc rfl]
      have := forL_ind (ds := [D.lst ((sortI (keys L)).map D.int)]) (M0 := M ++ [MO.lst []]) (g := forT P.gl (callF P n) P.subAt (.name 4) (.seq (.ite (.or (.cmp .In (.tup (.cons (.var 4) (.cons (.cst (.bl true)) .nil))) (.idx (.var 0) (.var 1))) (.and (.not (.var 2)) (.cmp .In (.tup (.cons (.var 4) (.cons (.cst (.bl false)) .nil))) (.idx (.var 0) (.var 1)))))
          (.seq (.expr (.bm .append (.var 3) (.cons (.var 4) .nil))) .done) .done) .done))
        (fun rest ρ M' => ∃ pre post, sortI (keys L) = pre ++ post ∧ rest = post.map D.int ∧ (∃ v, ρ = [some (.ref r), some (.int k), some (.bl strict), some (.ref M.length), v]) ∧ M' = M ++ [.lst ((pre.filter (waitOn (getR L k) strict)).map D.int)]) ?_ ?_ ((sortI (keys L)).map D.int) [some (.ref r), some (.int k), some (.bl strict), some (.ref M.length), none] (M ++ [.lst []]) ⟨[], sortI (keys L), rfl, rfl, ⟨_, rfl⟩, rfl⟩
      · obtain ⟨ρ', M', e, pre, post, e1, e2, e3, e4⟩ := this
        have : post = [] := by cases post with | nil => rfl | cons _ _ => cases e2
        subst this
        rw [List.append_nil] at e1
        exact ⟨ρ', M', e, e3, by rw [e4, ← e1]; rfl⟩
      · rintro x rest ρ M' ⟨pre, post, e1, e2, ⟨v, e3⟩, e4⟩
        refine ⟨rfl, ?_⟩
        cases post with
        | nil => cases e2
        | cons o post =>
          rw [List.map_cons] at e2
          injection e2 with e2 e5
          subst e2 e3
          have hlen : pre.length < 1000 := by have := congrArg List.length e1; simp at this; omega
          refine ⟨[some (.ref r), some (.int k), some (.bl strict), some (.ref M.length), some (.int o)], M ++ [.lst (((pre ++ [o]).filter (waitOn (getR L k) strict)).map D.int)], .inl ?_, pre ++ [o], post, by simp [e1], e5, ⟨_, rfl⟩, rfl⟩
          rw [forT_eq rfl]
          subst e4
          generalize hA : (pre.filter (waitOn (getR L k) strict)).map D.int = A
          have hAl : A.length < big := by
            rw [← hA, List.length_map]
            have := List.length_filter_le (waitOn (getR L k) strict) pre
            unfold big; omega
          have hr2 := hr1 [.lst A]
          have hi := idx_dict hr2 hk
          have t1 : ∀ b : Bool, eval P.gl (callF P n) (.cmp .In (.tup (.cons (.var 4) (.cons (.cst (.bl b)) .nil))) (.idx (.var 0) (.var 1))) [some (.ref r), some (.int k), some (.bl strict), some (.ref M.length), some (.int o)] (M ++ [.lst A]) = .ok (.bl ((getR L k).contains (o, b))) (M ++ [.lst A]) := fun b => by
            have hz : (2 : Nat) ≤ big := by decide
            simp only [eval, evalL, List.getElem?_cons_zero, List.getElem?_cons_succ, R.bind_ok, List.length_cons, List.length_nil, hz, if_true, hi, cmpD]
            rw [show D.tup [.int o, .bl b] = tieD (o, b) from rfl, in_ties]
            rfl
          have test : eval P.gl (callF P n) (.or (.cmp .In (.tup (.cons (.var 4) (.cons (.cst (.bl true)) .nil))) (.idx (.var 0) (.var 1))) (.and (.not (.var 2)) (.cmp .In (.tup (.cons (.var 4) (.cons (.cst (.bl false)) .nil))) (.idx (.var 0) (.var 1))))) [some (.ref r), some (.int k), some (.bl strict), some (.ref M.length), some (.int o)] (M ++ [.lst A]) = .ok (.bl (waitOn (getR L k) strict o)) (M ++ [.lst A]) := by
            unfold waitOn
            cases h1 : (getR L k).contains (o, true) with
            | true => exact (ev_orT (x := .bl true) ((t1 true).trans (by rw [h1])) rfl).trans (by rw [Bool.true_or])
            | false =>
              refine (ev_orF (x := .bl false) ((t1 true).trans (by rw [h1])) rfl).trans ?_
              rw [Bool.false_or]
              cases strict with
              | true => exact ev_andF rfl rfl
              | false => exact (ev_andT rfl rfl).trans (t1 false)
          refine (exec_seq (ρ' := [some (.ref r), some (.int k), some (.bl strict), some (.ref M.length), some (.int o)]) (M' := M ++ [.lst (((pre ++ [o]).filter (waitOn (getR L k) strict)).map D.int)]) ?_).trans rfl
          rw [List.filter_append, List.map_append, hA]
          cases hwo : waitOn (getR L k) strict o with
          | false =>
            rw [hwo] at test
            refine (ex_ifF test rfl).trans ?_
            simp [exec, hwo]
          | true =>
            rw [hwo] at test
            rw [show ([o].filter (waitOn (getR L k) strict)).map D.int = [D.int o] by simp [hwo]]
            refine (ex_ifT test rfl).trans ((exec_seq (M' := M ++ [.lst (A ++ [.int o])]) (ex_expr (x := .non) ((ev_bm rfl ?_ rfl).trans ?_))).trans rfl)
            · exact bmOk_end
            · exact app_end hAl
      · rintro ρ M' _
        rfl
    obtain ⟨ρ', M', e, ⟨v, e1⟩, e2⟩ := hfor
    refine (exec_seq e).trans (exec_seq_rt (ex_ret ((ev_blt (ds := [.ref M.length]) (M1 := M') ?_).trans ?_)))
    · subst e1; rfl
    · subst e2
      show (match seqOf (M ++ [MO.lst ((waitsV L k strict).map D.int)]) (.ref M.length) with | some xs => R.ok (D.tup xs) (M ++ [MO.lst ((waitsV L k strict).map D.int)]) | none => .stuck) = _
      rw [show seqOf (M ++ [MO.lst ((waitsV L k strict).map D.int)]) (.ref M.length) = some ((waitsV L k strict).map D.int) by simp only [seqOf, get_end]]
      rfl
  rw [key]
  exact fin_app (flat_ints _)
end MP

/-! Mp4b: what put_order gives. -/
namespace MP
def freeV (L : List Rw) (strict : Bool) : List Int := (sortI (keys L)).filter fun k => (waitsV L k strict).isEmpty
def pickK (L : List Rw) : Option Int := (freeV L false ++ freeV L true).head?
def rest (L : List Rw) (k : Int) : List Rw := L.filter fun r => decide (r.1 ≠ k)
abbrev Step := Int × List Int
def orderN : Nat → List Rw → Option (List Step)
  | 0, L => if L = [] then some [] else none
  | n + 1, L => if L = [] then some [] else match pickK L with
    | none => none
    | some k => (orderN n (rest L k)).map ((k, waitsV L k false) :: ·)
def orderV (L : List Rw) : Option (List Step) := orderN L.length L
def stepD (s : Step) : D := .tup [.int s.1, intsD s.2]
def orderD (l : List Step) : D := .tup (l.map stepD)
theorem flat_order (l : List Step) : (orderD l).flat = true := by
  simp only [orderD, D.flat]
  induction l with
  | nil => rfl
  | cons a l ih =>
    have := flat_ints a.2
    simp [D.flatL, stepD, D.flat, ih, this]
theorem pick_mem {L : List Rw} {k : Int} (h : pickK L = some k) : k ∈ keys L := by
  have h1 := List.mem_of_mem_head? (show k ∈ (freeV L false ++ freeV L true).head? from h)
  rcases List.mem_append.mp h1 with h2 | h2 <;> exact mem_sort.mp (List.mem_filter.mp h2).1
theorem keys_rest (L : List Rw) (k : Int) : keys (rest L k) = (keys L).filter fun x => decide (x ≠ k) := by
  unfold keys rest
  rw [List.filter_map]
  rfl
theorem nodup_rest {L : List Rw} (h : (keys L).Nodup) (k : Int) : (keys (rest L k)).Nodup := by
  rw [keys_rest]; exact h.filter _
theorem length_rest {L : List Rw} {k : Int} (h : (keys L).Nodup) (hk : k ∈ keys L) : (rest L k).length + 1 = L.length := by
  have e1 : (rest L k).length = (keys (rest L k)).length := by simp [keys]
  have e2 : L.length = (keys L).length := by simp [keys]
  rw [e1, e2, keys_rest]
  have : (keys L).erase k = (keys L).filter fun x => decide (x ≠ k) := by
    rw [h.erase_eq_filter]
    refine List.filter_congr fun x _ => ?_
    by_cases q : x = k <;> simp [q]
  rw [← this, List.length_erase_of_mem hk]
  have : 0 < (keys L).length := List.length_pos_of_mem hk
  omega
theorem at0 {α : Type} (x : α) (xs : List α) : L2.atI (x :: xs) 0 = some x := by
  have h : (0 : Int) < ((x :: xs).length : Nat) := by simp
  have := atI_nat (xs := x :: xs) (Int.le_refl 0) h x
  simpa using this
theorem at1 {α : Type} (x y : α) (xs : List α) : L2.atI (x :: y :: xs) 1 = some y := by
  have h : (1 : Int) < ((x :: y :: xs).length : Nat) := by simp; omega
  have := atI_nat (xs := x :: y :: xs) (by decide : (0 : Int) ≤ 1) h x
  simpa using this
/-! ### dict(rows) -/
theorem pairs_rows (L : List Rw) : pairsOf (L.map rowD) = some (kvs L) := by
  unfold kvs
  induction L with
  | nil => rfl
  | cons r L ih => simp only [List.map_cons, rowD, pairsOf, keyOf, ih]
theorem put_new {κ : Type} [DecidableEq κ] {kv : List (κ × D)} {k : κ} {v : D} (h : k ∉ kv.map (·.1)) : dPut kv k v = kv ++ [(k, v)] := by
  unfold dPut
  rw [if_neg]
  intro q
  obtain ⟨x, hx, e⟩ := List.any_eq_true.mp q
  exact h (List.mem_map.mpr ⟨x, hx, by simpa using e⟩)
theorem merge_new {κ : Type} [DecidableEq κ] : ∀ (b a : List (κ × D)), ((a ++ b).map (·.1)).Nodup → dMerge a b = a ++ b
  | [], a, _ => by simp [dMerge]
  | (k, v) :: b, a, h => by
    have h1 : k ∉ a.map (·.1) := by
      rw [List.map_append, List.map_cons, List.nodup_append] at h
      intro z
      exact h.2.2 k z k (List.mem_cons_self ..) rfl
    have := merge_new b (a ++ [(k, v)]) (by simpa using h)
    unfold dMerge at this ⊢
    rw [List.foldl_cons, put_new h1, this]
    simp
theorem kvs_keys (L : List Rw) : (kvs L).map (·.1) = (keys L).map Sum.inl := by simp [kvs, keys]
theorem inl_nodup {l : List Int} (h : l.Nodup) : (l.map (Sum.inl : Int → Key)).Nodup := by
  rw [List.nodup_iff_pairwise_ne, List.pairwise_map]
  exact h.imp fun {a b} q z => q (Sum.inl.inj z)
theorem merge_rows {L : List Rw} (h : (keys L).Nodup) : dMerge [] (kvs L) = kvs L := by
  have := merge_new (kvs L) [] (by rw [List.nil_append, kvs_keys]; exact inl_nodup h)
  simpa using this
theorem dict_rows {L : List Rw} (h : (keys L).Nodup) (M : Mem) : bltF .dict [rowsD L] M = .ok (.ref M.length) (M ++ [.dK (kvs L)]) := by
  show (match pairsOf (L.map rowD) with | some kvs => R.ok (D.ref M.length) (M ++ [MO.dK (dMerge [] kvs)]) | none => .stuck) = _
  rw [pairs_rows]
  show R.ok (D.ref M.length) (M ++ [MO.dK (dMerge [] (kvs L))]) = _
  rw [merge_rows h]
/-! ### put_order -/
def putB (wI xI : Nat) : S :=
  (.seq (.asg (.name 1) (.tup .nil))
  (.seq (.asg (.name 2) (.blt .dict (.cons (.var 0) .nil)))
  (.seq (.whl 1000 (.var 2)
    (.seq (.asg (.name 3) (.comp false [5] (.name 5) .seq (.cons (.blt (.sorted false) (.cons (.var 2) .nil)) .nil) (.cmp .Eq (.call wI (.cons (.var 2) (.cons (.var 5) (.cons (.cst (.bl false)) .nil)))) (.tup .nil)) (.var 5)))
    (.seq (.asg (.name 4) (.comp false [5] (.name 5) .seq (.cons (.blt (.sorted false) (.cons (.var 2) .nil)) .nil) (.cmp .Eq (.call wI (.cons (.var 2) (.cons (.var 5) (.cons (.cst (.bl true)) .nil)))) (.tup .nil)) (.var 5)))
    (.seq (.ite (.and (.not (.var 3)) (.not (.var 4)))
      (.seq (.rai xI)
      .done)
      .done)
    (.seq (.asg (.name 5) (.idx (.bin (.add false) (.var 3) (.var 4)) (.cst (.int 0))))
    (.seq (.asg (.name 1) (.bin (.add false) (.var 1) (.tup (.cons (.tup (.cons (.var 5) (.cons (.call wI (.cons (.var 2) (.cons (.var 5) (.cons (.cst (.bl false)) .nil)))) .nil))) .nil))))
    (.seq (.expr (.bm .dpop (.var 2) (.cons (.var 5) .nil)))
    .done)))))))
  (.seq (.ret (.var 1))
  .done))))
theorem fmap_filter (l : List Int) (p : Int → Bool) (h : D → Option D) (hh : ∀ k ∈ l, h (.int k) = if p k then some (.int k) else none) : (l.map D.int).filterMap h = (l.filter p).map D.int := by
  induction l with
  | nil => rfl
  | cons a l ih =>
    have h1 := hh a (List.mem_cons_self ..)
    have h2 := ih fun k hk => hh k (List.mem_cons_of_mem _ hk)
    rw [List.map_cons, List.filterMap_cons, h1, h2, List.filter_cons]
    cases p a <;> rfl
theorem free_ev {P : Prog} {n wI : Nat} (hw : P.funs[wI]? = some ⟨3, 5, false, waitsB⟩) {M : Mem} {r : Nat} {L : List Rw} (hr : M[r]? = some (.dK (kvs L))) (hL : L.length ≤ 1000) (strict : Bool) {a b c d e : Option D} :
    eval P.gl (callF P (n + 1)) (.comp false [5] (.name 5) .seq (.cons (.blt (.sorted false) (.cons (.var 2) .nil)) .nil) (.cmp .Eq (.call wI (.cons (.var 2) (.cons (.var 5) (.cons (.cst (.bl strict)) .nil)))) (.tup .nil)) (.var 5)) [a, b, some (.ref r), c, d, e] M = .ok (.lst ((freeV L strict).map D.int)) M := by
  have hsrc : evalL P.gl (callF P (n + 1)) (.cons (.blt (.sorted false) (.cons (.var 2) .nil)) .nil) [a, b, some (.ref r), c, d, e] M = .ok [.lst ((sortI (keys L)).map D.int)] M := by
    refine ev_cons ((ev_blt rfl).trans ?_) ev_nil
    show (match sorted M (.ref r) with | some xs => newL false xs M | none => .stuck) = _
    rw [sorted_dict hr]
    rfl
  let h : D → Option D := fun x => match x with
    | .int k => if (waitsV L k strict).isEmpty then some (.int k) else none
    | _ => none
  refine (ev_comp (xs := (sortI (keys L)).map D.int) (ys := [] ++ ((sortI (keys L)).map D.int).filterMap h) (M2 := M) hsrc rfl ?_).trans ?_
  · refine compL_pure (still_same _ _) _ _ fun y hy => ?_
    obtain ⟨k, hk, rfl⟩ := List.mem_map.mp hy
    have hk' : k ∈ keys L := mem_sort.mp hk
    have t : eval P.gl (callF P (n + 1)) (.cmp .Eq (.call wI (.cons (.var 2) (.cons (.var 5) (.cons (.cst (.bl strict)) .nil)))) (.tup .nil)) [a, b, some (.ref r), c, d, some (.int k)] M = .ok (.bl (waitsV L k strict).isEmpty) M := by
      have e1 : eval P.gl (callF P (n + 1)) (.call wI (.cons (.var 2) (.cons (.var 5) (.cons (.cst (.bl strict)) .nil)))) [a, b, some (.ref r), c, d, some (.int k)] M = .ok (intsD (waitsV L k strict)) M := (ev_call rfl).trans (waits_ok hw hr hk' hL)
      have e2 : eval P.gl (callF P (n + 1)) (.tup .nil) [a, b, some (.ref r), c, d, some (.int k)] M = .ok (.tup []) M := rfl
      have e3 := eq_nil M (waitsV L k strict)
      show ((eval P.gl (callF P (n + 1)) (.call wI (.cons (.var 2) (.cons (.var 5) (.cons (.cst (.bl strict)) .nil)))) [a, b, some (.ref r), c, d, some (.int k)] M).bind fun x M => (eval P.gl (callF P (n + 1)) (.tup .nil) [a, b, some (.ref r), c, d, some (.int k)] M).bind fun y M => R.ofB (eqD M x y) M) = _
      rw [e1, R.bind_ok, e2, R.bind_ok, e3]
      rfl
    cases hq : (waitsV L k strict).isEmpty with
    | true =>
      rw [hq] at t
      rw [show h (.int k) = some (.int k) by show (if (waitsV L k strict).isEmpty then _ else _) = _; rw [hq]; rfl]
      exact compT_yes rfl rfl t rfl rfl
    | false =>
      rw [hq] at t
      rw [show h (.int k) = none by show (if (waitsV L k strict).isEmpty then _ else _) = _; rw [hq]; rfl]
      exact compT_no rfl rfl t rfl
  · rw [List.nil_append, fmap_filter _ (fun k => (waitsV L k strict).isEmpty) h fun k _ => rfl]
    rfl
theorem put_ok {P : Prog} {n wI pI xI : Nat} (hw : P.funs[wI]? = some ⟨3, 5, false, waitsB⟩) (hp : P.funs[pI]? = some ⟨1, 6, false, putB wI xI⟩) {rows : List Rw} (hnd : (keys rows).Nodup) (hlen : rows.length ≤ 500) (M : Mem) :
    callF P (n + 2) pI [rowsD rows] M = match orderV rows with | some o => .ok (orderD o) M | none => .exc xI M := by
  rw [callF_eq hp rfl]
  have key : ∃ ρ' X, exec P.gl (callF P (n + 1)) P.subAt (putB wI xI) (start 6 [rowsD rows]) M = match orderV rows with | some o => .rt (orderD o) (M ++ X) | none => .ex xI ρ' (M ++ X) := by
    have s1 : ∀ t, exec P.gl (callF P (n + 1)) P.subAt (.seq (.asg (.name 1) (.tup .nil)) (.seq (.asg (.name 2) (.blt .dict (.cons (.var 0) .nil))) t)) (start 6 [rowsD rows]) M = exec P.gl (callF P (n + 1)) P.subAt t [some (rowsD rows), some (orderD []), some (.ref M.length), none, none, none] (M ++ [.dK (kvs rows)]) := fun t =>
      (exec_seq (ρ' := [some (rowsD rows), some (orderD []), none, none, none, none]) (M' := M) rfl).trans (exec_seq (ex_asg ((ev_blt rfl).trans (dict_rows hnd M)) rfl))
    unfold putB
    -- behind the loop
    have loop : ∃ f, exec P.gl (callF P (n + 1)) P.subAt (.whl 1000 (.var 2)
    (.seq (.asg (.name 3) (.comp false [5] (.name 5) .seq (.cons (.blt (.sorted false) (.cons (.var 2) .nil)) .nil) (.cmp .Eq (.call wI (.cons (.var 2) (.cons (.var 5) (.cons (.cst (.bl false)) .nil)))) (.tup .nil)) (.var 5)))
    (.seq (.asg (.name 4) (.comp false [5] (.name 5) .seq (.cons (.blt (.sorted false) (.cons (.var 2) .nil)) .nil) (.cmp .Eq (.call wI (.cons (.var 2) (.cons (.var 5) (.cons (.cst (.bl true)) .nil)))) (.tup .nil)) (.var 5)))
    (.seq (.ite (.and (.not (.var 3)) (.not (.var 4)))
      (.seq (.rai xI)
      .done)
      .done)
    (.seq (.asg (.name 5) (.idx (.bin (.add false) (.var 3) (.var 4)) (.cst (.int 0))))
    (.seq (.asg (.name 1) (.bin (.add false) (.var 1) (.tup (.cons (.tup (.cons (.var 5) (.cons (.call wI (.cons (.var 2) (.cons (.var 5) (.cons (.cst (.bl false)) .nil)))) .nil))) .nil))))
    (.seq (.expr (.bm .dpop (.var 2) (.cons (.var 5) .nil)))
    .done))))))) [some (rowsD rows), some (orderD []), some (.ref M.length), none, none, none] (M ++ [.dK (kvs rows)]) = f ∧
      ((∃ o ρ' X, orderV rows = some o ∧ f = .nx ρ' (M ++ X) ∧ ρ'[1]? = some (some (orderD o))) ∨ (∃ ρ' X, orderV rows = none ∧ f = .ex xI ρ' (M ++ X))) := by
      refine ⟨_, rfl, ?_⟩
      rw [ex_whl]
      refine whlL_ind (fun k ρ M' => ∃ found L v3 v4 v5, ρ = [some (rowsD rows), some (orderD found), some (.ref M.length), v3, v4, v5] ∧ M' = M ++ [.dK (kvs L)] ∧ L.length = k ∧ (keys L).Nodup ∧ found.length + L.length = rows.length ∧ orderV rows = (orderN k L).map (found ++ ·))
        (fun f => ((∃ o ρ' X, orderV rows = some o ∧ f = .nx ρ' (M ++ X) ∧ ρ'[1]? = some (some (orderD o))) ∨ (∃ ρ' X, orderV rows = none ∧ f = .ex xI ρ' (M ++ X)))) 1000 rows.length _ _ (by omega) ?_ ⟨[], rows, none, none, none, rfl, rfl, rfl, hnd, by simp, by unfold orderV; simp⟩
      rintro k ρ M' ⟨found, L, v3, v4, v5, rfl, rfl, rfl, hndL, hfl, hord⟩
      have hr : (M ++ [MO.dK (kvs L)])[M.length]? = some (.dK (kvs L)) := get_end _ _
      have htr : ((eval P.gl (callF P (n + 1)) (.var 2) [some (rowsD rows), some (orderD found), some (.ref M.length), v3, v4, v5] (M ++ [.dK (kvs L)])).bind toTest) = .ok (!(kvs L).isEmpty) (M ++ [.dK (kvs L)]) := by
        show toTest (.ref M.length) (M ++ [MO.dK (kvs L)]) = _
        simp only [toTest, truth, hr]
      cases L with
      | nil =>
        refine .inl ⟨M ++ [MO.dK (kvs [])], htr, .inl ⟨found, [some (rowsD rows), some (orderD found), some (.ref M.length), v3, v4, v5], [.dK (kvs [])], ?_, rfl, rfl⟩⟩
        rw [hord]
        simp [orderN]
      | cons r0 L0 =>
        generalize hLe : r0 :: L0 = L at *
        have hne : L ≠ [] := by rw [← hLe]; simp
        have hLlen : L.length ≤ 1000 := by omega
        have hpos : 0 < L.length := List.length_pos_iff.mpr hne
        obtain ⟨k, hk⟩ : ∃ k, L.length = k + 1 := ⟨L.length - 1, by omega⟩
        refine .inr ⟨M ++ [.dK (kvs L)], htr.trans ?_, ?_⟩
        · rw [show (kvs L).isEmpty = false by rw [← hLe]; rfl]
          rfl
        have ho : orderN L.length L = match pickK L with | none => none | some q => (orderN k (rest L q)).map ((q, waitsV L q false) :: ·) := by
          rw [hk]
          simp only [orderN, hne, if_false]
        have st1 : ∀ t, exec P.gl (callF P (n + 1)) P.subAt (.seq (.asg (.name 3) (.comp false [5] (.name 5) .seq (.cons (.blt (.sorted false) (.cons (.var 2) .nil)) .nil) (.cmp .Eq (.call wI (.cons (.var 2) (.cons (.var 5) (.cons (.cst (.bl false)) .nil)))) (.tup .nil)) (.var 5)))
            (.seq (.asg (.name 4) (.comp false [5] (.name 5) .seq (.cons (.blt (.sorted false) (.cons (.var 2) .nil)) .nil) (.cmp .Eq (.call wI (.cons (.var 2) (.cons (.var 5) (.cons (.cst (.bl true)) .nil)))) (.tup .nil)) (.var 5))) t)) [some (rowsD rows), some (orderD found), some (.ref M.length), v3, v4, v5] (M ++ [.dK (kvs L)]) =
            exec P.gl (callF P (n + 1)) P.subAt t [some (rowsD rows), some (orderD found), some (.ref M.length), some (.lst ((freeV L false).map D.int)), some (.lst ((freeV L true).map D.int)), v5] (M ++ [.dK (kvs L)]) := fun t =>
          (exec_seq (ex_asg (free_ev hw hr hLlen false) rfl)).trans (exec_seq (ex_asg (free_ev hw hr hLlen true) rfl))
        rw [st1]
        have htest : eval P.gl (callF P (n + 1)) (.and (.not (.var 3)) (.not (.var 4))) [some (rowsD rows), some (orderD found), some (.ref M.length), some (.lst ((freeV L false).map D.int)), some (.lst ((freeV L true).map D.int)), v5] (M ++ [.dK (kvs L)]) = .ok (.bl (freeV L false ++ freeV L true).isEmpty) (M ++ [.dK (kvs L)]) := by
          cases h1 : freeV L false with
          | nil =>
            refine (ev_andT (x := .bl true) rfl rfl).trans ?_
            cases h2 : freeV L true <;> rfl
          | cons a l => exact ev_andF (x := .bl false) rfl rfl
        cases hpk : pickK L with
        | none =>
          have hnil : freeV L false ++ freeV L true = [] := by
            unfold pickK at hpk
            exact List.head?_eq_none_iff.mp hpk
          rw [hnil] at htest
          refine .inr (.inr (.inr ⟨xI, _, _, exec_seq_ex ((ex_ifT htest rfl).trans (exec_seq_ex rfl)), .inr ⟨_, _, ?_, rfl⟩⟩))
          rw [hord, ho, hpk]
          rfl
        | some q =>
          have hqm := pick_mem hpk
          obtain ⟨tl, htl⟩ : ∃ tl, freeV L false ++ freeV L true = q :: tl := by
            unfold pickK at hpk
            cases hf : freeV L false ++ freeV L true with
            | nil => rw [hf] at hpk; cases hpk
            | cons a tl => rw [hf] at hpk; cases hpk; exact ⟨tl, rfl⟩
          rw [htl] at htest
          have hlr := length_rest hndL hqm
          refine .inl ⟨[some (rowsD rows), some (orderD (found ++ [(q, waitsV L q false)])), some (.ref M.length), some (.lst ((freeV L false).map D.int)), some (.lst ((freeV L true).map D.int)), some (.int q)], M ++ [.dK (kvs (rest L q))], (rest L q).length, .inl ?_, by omega, found ++ [(q, waitsV L q false)], rest L q, _, _, _, rfl, rfl, rfl, nodup_rest hndL q, by simp; omega, ?_⟩
          · refine (exec_seq (ex_ifF htest rfl)).trans ?_
            have hsum : eval P.gl (callF P (n + 1)) (.idx (.bin (.add false) (.var 3) (.var 4)) (.cst (.int 0))) [some (rowsD rows), some (orderD found), some (.ref M.length), some (.lst ((freeV L false).map D.int)), some (.lst ((freeV L true).map D.int)), v5] (M ++ [.dK (kvs L)]) = .ok (.int q) (M ++ [.dK (kvs L)]) := by
              have hl2 : ((freeV L false).map D.int).length + ((freeV L true).map D.int).length ≤ big := by
                have h1 : (freeV L false).length ≤ L.length := by
                  have := List.length_filter_le (fun k => (waitsV L k false).isEmpty) (sortI (keys L))
                  rw [(sortI_perm _).length_eq] at this
                  simpa [freeV, keys] using this
                have h2 : (freeV L true).length ≤ L.length := by
                  have := List.length_filter_le (fun k => (waitsV L k true).isEmpty) (sortI (keys L))
                  rw [(sortI_perm _).length_eq] at this
                  simpa [freeV, keys] using this
                rw [List.length_map, List.length_map]
                unfold big
                omega
              refine (ev_idx (x := .lst ((freeV L false ++ freeV L true).map D.int)) (y := .int 0) (M1 := M ++ [MO.dK (kvs L)]) (M2 := M ++ [MO.dK (kvs L)]) ((ev_bin rfl rfl).trans ?_) rfl).trans ?_
              · show (if ((freeV L false).map D.int).length + ((freeV L true).map D.int).length ≤ big then newL false ((freeV L false).map D.int ++ (freeV L true).map D.int) (M ++ [MO.dK (kvs L)]) else .stuck) = _
                rw [if_pos hl2, ← List.map_append]
                rfl
              · rw [htl, List.map_cons]
                simp only [idx, atD, at0]
            refine (exec_seq (ex_asg hsum rfl)).trans ?_
            have hfound : eval P.gl (callF P (n + 1)) (.bin (.add false) (.var 1) (.tup (.cons (.tup (.cons (.var 5) (.cons (.call wI (.cons (.var 2) (.cons (.var 5) (.cons (.cst (.bl false)) .nil)))) .nil))) .nil))) [some (rowsD rows), some (orderD found), some (.ref M.length), some (.lst ((freeV L false).map D.int)), some (.lst ((freeV L true).map D.int)), some (.int q)] (M ++ [.dK (kvs L)]) = .ok (orderD (found ++ [(q, waitsV L q false)])) (M ++ [.dK (kvs L)]) := by
              refine (ev_bin (x := orderD found) (y := .tup [stepD (q, waitsV L q false)]) rfl (ev_tup (ev_cons (ev_tup (ev_cons rfl (ev_cons ((ev_call rfl).trans (waits_ok hw hr hqm hLlen)) ev_nil)) (by show 2 ≤ big; decide)) ev_nil) (by show 1 ≤ big; decide))).trans ?_
              show (if (found.map stepD).length + 1 ≤ big then R.ok (D.tup (found.map stepD ++ [stepD (q, waitsV L q false)])) (M ++ [MO.dK (kvs L)]) else .stuck) = _
              rw [if_pos (by rw [List.length_map]; unfold big; omega)]
              unfold orderD
              rw [List.map_append]
              rfl
            refine (exec_seq (ex_asg hfound rfl)).trans ?_
            refine (exec_seq (ex_expr (x := tiesD (getR L q)) (M1 := M ++ [MO.dK (kvs (rest L q))]) ((ev_bm (x := .ref M.length) rfl ?_ rfl).trans ?_))).trans rfl
            · simp only [bmOk, hr]
              rfl
            · simp only [bmF, hr, keyOf, dGet_in hqm, set_end, drop_kvs]
              rfl
          · rw [hord, ho, hpk]
            have e5 : (rest L q).length = k := by omega
            rw [e5]
            show ((orderN k (rest L q)).map ((q, waitsV L q false) :: ·)).map (found ++ ·) = _
            rw [Option.map_map]
            congr 1
            funext z
            simp
    obtain ⟨f, hf, h | h⟩ := loop
    · obtain ⟨o, ρ', X, e1, e2, e3⟩ := h
      refine ⟨ρ', X, (s1 _).trans ?_⟩
      rw [e1]
      rw [e2] at hf
      refine (exec_seq hf).trans (exec_seq_rt (ex_ret ?_))
      simp only [eval, e3]
    · obtain ⟨ρ', X, e1, e2⟩ := h
      refine ⟨ρ', X, (s1 _).trans ?_⟩
      rw [e1]
      rw [e2] at hf
      exact exec_seq_ex hf
  obtain ⟨ρ', X, key⟩ := key
  rw [key]
  cases orderV rows with
  | some o => exact fin_app (flat_order o)
  | none => exact fin_ex
end MP

/-! Mp5a: k03's own order: what it gives. -/
namespace MP
theorem get_off (M X : Mem) (i : Nat) : (M ++ X)[M.length + i]? = X[i]? := by
  rw [List.getElem?_append_right (Nat.le_add_right _ _), Nat.add_sub_cancel_left]
theorem set_off (M X : Mem) (i : Nat) (o : MO) : (M ++ X).set (M.length + i) o = M ++ X.set i o := by
  rw [List.set_append_right _ _ (Nat.le_add_right _ _), Nat.add_sub_cancel_left]
theorem app_at {M : Mem} {r : Nat} {A : List D} {d : D} (hr : M[r]? = some (.lst A)) (h : A.length < big) : bmF .append (.ref r) [d] M = .ok .non (M.set r (.lst (A ++ [d]))) := by
  simp only [bmF, hr, h, if_true]
theorem bmOk_at {M : Mem} {r : Nat} {A : List D} (hr : M[r]? = some (.lst A)) : bmOk .append M (.ref r) = true := by
  simp only [bmOk, hr]
  rfl
/-! ### the tests -/
def inL (L : List Rw) (p : Tie) : Bool := decide (p.1 ∈ keys L)
theorem empty_iff {l : List Int} : l.isEmpty = true ↔ ∀ x, x ∉ l := by
  cases l with
  | nil => simp
  | cons a l => simp only [List.isEmpty_cons, Bool.false_eq_true, false_iff]; intro h; exact h a (List.mem_cons_self ..)
theorem emptyT_iff {l : List Tie} : l.isEmpty = true ↔ ∀ x, x ∉ l := by
  cases l with
  | nil => simp
  | cons a l => simp only [List.isEmpty_cons, Bool.false_eq_true, false_iff]; intro h; exact h a (List.mem_cons_self ..)
theorem waits_mem {L : List Rw} {k o : Int} {strict : Bool} : o ∈ waitsV L k strict ↔ o ∈ keys L ∧ waitOn (getR L k) strict o = true := by
  unfold waitsV
  rw [List.mem_filter, mem_sort]
theorem waitOn_false {ties : List Tie} {o : Int} : waitOn ties false o = true ↔ ∃ b, (o, b) ∈ ties := by
  unfold waitOn
  simp only [Bool.not_false, Bool.true_and, Bool.or_eq_true, List.contains_iff_mem]
  constructor
  · rintro (h | h)
    · exact ⟨_, h⟩
    · exact ⟨_, h⟩
  · rintro ⟨b, h⟩
    cases b
    · exact .inr h
    · exact .inl h
theorem waitOn_true {ties : List Tie} {o : Int} : waitOn ties true o = true ↔ (o, true) ∈ ties := by
  unfold waitOn
  simp only [Bool.not_true, Bool.false_and, Bool.or_false, List.contains_iff_mem]
theorem free0 (L : List Rw) (k : Int) : ((getR L k).filter (inL L)).isEmpty = (waitsV L k false).isEmpty := by
  rw [Bool.eq_iff_iff, emptyT_iff, empty_iff]
  constructor
  · intro h o ho
    obtain ⟨h1, h2⟩ := waits_mem.mp ho
    obtain ⟨b, hb⟩ := waitOn_false.mp h2
    exact h (o, b) (List.mem_filter.mpr ⟨hb, decide_eq_true h1⟩)
  · rintro h ⟨o, b⟩ hp
    obtain ⟨h1, h2⟩ := List.mem_filter.mp hp
    exact h o (waits_mem.mpr ⟨of_decide_eq_true h2, waitOn_false.mpr ⟨b, h1⟩⟩)
theorem free1 (L : List Rw) (k : Int) : (((getR L k).filter (inL L)).filter (·.2)).isEmpty = (waitsV L k true).isEmpty := by
  rw [Bool.eq_iff_iff, emptyT_iff, empty_iff]
  constructor
  · intro h o ho
    obtain ⟨h1, h2⟩ := waits_mem.mp ho
    exact h (o, true) (List.mem_filter.mpr ⟨List.mem_filter.mpr ⟨waitOn_true.mp h2, decide_eq_true h1⟩, rfl⟩)
  · rintro h ⟨o, b⟩ hp
    obtain ⟨h1, h2⟩ := List.mem_filter.mp hp
    obtain ⟨h3, h4⟩ := List.mem_filter.mp h1
    have h2 : b = true := h2
    subst h2
    exact h o (waits_mem.mpr ⟨of_decide_eq_true h4, waitOn_true.mpr h3⟩)
/-! ### pieces -/
section
variable {gl : Nat → Option D} {cf : CF} {M : Mem} {r : Nat} {L : List Rw}
theorem fmap_ties (l : List Tie) (p : Tie → Bool) (h : D → Option D) (hh : ∀ k ∈ l, h (tieD k) = if p k then some (tieD k) else none) : (l.map tieD).filterMap h = (l.filter p).map tieD := by
  induction l with
  | nil => rfl
  | cons a l ih =>
    have h1 := hh a (List.mem_cons_self ..)
    have h2 := ih fun k hk => hh k (List.mem_cons_of_mem _ hk)
    rw [List.map_cons, List.filterMap_cons, h1, h2, List.filter_cons]
    cases p a <;> rfl
def tieOf : D → Tie
  | .tup [.int a, .bl b] => (a, b)
  | _ => (0, false)
theorem tieOf_D (p : Tie) : tieOf (tieD p) = p := rfl
/-- [tie for tie in left[number] if tie[0] in left] -/
theorem ties_ev (hr : M[r]? = some (.dK (kvs L))) {k : Int} (hk : k ∈ keys L) {a0 a1 a4 a5 a6 a7 a8 a9 a10 : Option D} :
    eval gl cf (.comp false [10] (.name 10) .seq (.cons (.idx (.var 2) (.var 3)) .nil) (.cmp .In (.idx (.var 10) (.cst (.int 0))) (.var 2)) (.var 10)) [a0, a1, some (.ref r), some (.int k), a4, a5, a6, a7, a8, a9, a10] M = .ok (.lst (((getR L k).filter (inL L)).map tieD)) M := by
  let h : D → Option D := fun x => if inL L (tieOf x) then some x else none
  refine (ev_comp (xs := (getR L k).map tieD) (ys := [] ++ ((getR L k).map tieD).filterMap h) (M2 := M) (ev_cons ((ev_idx rfl rfl).trans (idx_dict hr hk)) ev_nil) rfl ?_).trans ?_
  · refine compL_pure (still_same _ _) _ _ fun y hy => ?_
    obtain ⟨p, hp, rfl⟩ := List.mem_map.mp hy
    have t : eval gl cf (.cmp .In (.idx (.var 10) (.cst (.int 0))) (.var 2)) [a0, a1, some (.ref r), some (.int k), a4, a5, a6, a7, a8, a9, some (tieD p)] M = .ok (.bl (inL L p)) M := by
      have e1 : eval gl cf (.idx (.var 10) (.cst (.int 0))) [a0, a1, some (.ref r), some (.int k), a4, a5, a6, a7, a8, a9, some (tieD p)] M = .ok (.int p.1) M := by
        refine (ev_idx rfl rfl).trans ?_
        simp only [idx, tieD, atD, at0]
      show ((eval gl cf (.idx (.var 10) (.cst (.int 0))) [a0, a1, some (.ref r), some (.int k), a4, a5, a6, a7, a8, a9, some (tieD p)] M).bind fun x M => (eval gl cf (.var 2) [a0, a1, some (.ref r), some (.int k), a4, a5, a6, a7, a8, a9, some (tieD p)] M).bind fun y M => R.ofB (isIn M x y) M) = _
      rw [e1, R.bind_ok]
      show R.ofB (isIn M (.int p.1) (.ref r)) M = _
      rw [in_dict hr]
      rfl
    cases hq : inL L p with
    | true =>
      rw [hq] at t
      rw [show h (tieD p) = some (tieD p) by show (if inL L (tieOf (tieD p)) then _ else _) = _; rw [tieOf_D, hq]; rfl]
      exact compT_yes rfl rfl t rfl rfl
    | false =>
      rw [hq] at t
      rw [show h (tieD p) = none by show (if inL L (tieOf (tieD p)) then _ else _) = _; rw [tieOf_D, hq]; rfl]
      exact compT_no rfl rfl t rfl
  · rw [List.nil_append, fmap_ties _ (inL L) h fun k _ => rfl]
    rfl
/-- [tie for tie in ties if tie[1]] -/
theorem hard_ev (l : List Tie) {a0 a1 a2 a3 a4 a5 a6 a8 a9 a10 : Option D} :
    eval gl cf (.comp false [10] (.name 10) .seq (.cons (.var 7) .nil) (.idx (.var 10) (.cst (.int 1))) (.var 10)) [a0, a1, a2, a3, a4, a5, a6, some (.lst (l.map tieD)), a8, a9, a10] M = .ok (.lst ((l.filter (·.2)).map tieD)) M := by
  let h : D → Option D := fun x => if (tieOf x).2 then some x else none
  refine (ev_comp (xs := l.map tieD) (ys := [] ++ (l.map tieD).filterMap h) (M2 := M) rfl rfl ?_).trans ?_
  · refine compL_pure (still_same _ _) _ _ fun y hy => ?_
    obtain ⟨p, hp, rfl⟩ := List.mem_map.mp hy
    have t : eval gl cf (.idx (.var 10) (.cst (.int 1))) [a0, a1, a2, a3, a4, a5, a6, some (.lst (l.map tieD)), a8, a9, some (tieD p)] M = .ok (.bl p.2) M := by
      refine (ev_idx rfl rfl).trans ?_
      simp only [idx, tieD, atD, at1]
    cases hq : p.2 with
    | true =>
      rw [hq] at t
      rw [show h (tieD p) = some (tieD p) by show (if (tieOf (tieD p)).2 then _ else _) = _; rw [tieOf_D, hq]; rfl]
      exact compT_yes rfl rfl t rfl rfl
    | false =>
      rw [hq] at t
      rw [show h (tieD p) = none by show (if (tieOf (tieD p)).2 then _ else _) = _; rw [tieOf_D, hq]; rfl]
      exact compT_no rfl rfl t rfl
  · rw [List.nil_append, fmap_ties _ (·.2) h fun k _ => rfl]
    rfl
end
/-! ### the first loop -/
def loF : S := (.seq (.asg (.name 7) (.comp false [10] (.name 10) .seq (.cons (.idx (.var 2) (.var 3)) .nil) (.cmp .In (.idx (.var 10) (.cst (.int 0))) (.var 2)) (.var 10)))
      (.seq (.ite (.not (.var 7))
        (.seq (.expr (.bm .append (.var 5) (.cons (.var 3) .nil)))
        .done)
        .done)
      (.seq (.ite (.not (.comp false [10] (.name 10) .seq (.cons (.var 7) .nil) (.idx (.var 10) (.cst (.int 1))) (.var 10)))
        (.seq (.expr (.bm .append (.var 6) (.cons (.var 3) .nil)))
        .done)
        .done)
      .done)))
abbrev fr (L : List Rw) (s : Bool) (k : Int) : Bool := (waitsV L k s).isEmpty
theorem still_none (l : List D) (M M' : Mem) : still [.lst l] M M' = true := rfl
section
variable {gl : Nat → Option D} {cf : CF} {sub : Nat → Nat → Option Bool} {M : Mem} {r : Nat} {L : List Rw}
theorem empty_map {α : Type} (l : List α) (f : α → D) : (l.map f).isEmpty = l.isEmpty := by cases l <;> rfl
theorem lo_turn (hr : M[r]? = some (.dK (kvs L))) {k : Int} (hk : k ∈ keys L) {A B : List D} (hA : A.length < big) (hB : B.length < big) {a0 a1 a4 a7 a8 a9 a10 : Option D} :
    exec gl cf sub loF [a0, a1, some (.ref r), some (.int k), a4, some (.ref (M.length + 0)), some (.ref (M.length + 1)), a7, a8, a9, a10] (M ++ [.lst A, .lst B]) =
      .nx [a0, a1, some (.ref r), some (.int k), a4, some (.ref (M.length + 0)), some (.ref (M.length + 1)), some (.lst (((getR L k).filter (inL L)).map tieD)), a8, a9, a10] (M ++ [.lst (if fr L false k then A ++ [.int k] else A), .lst (if fr L true k then B ++ [.int k] else B)]) := by
  have hr1 : ∀ X, (M ++ X)[r]? = some (.dK (kvs L)) := fun X => get_app hr
  unfold loF
  refine (exec_seq (ex_asg (ties_ev (hr1 _) hk) rfl)).trans ?_
  refine (exec_seq (ρ' := [a0, a1, some (.ref r), some (.int k), a4, some (.ref (M.length + 0)), some (.ref (M.length + 1)), some (.lst (((getR L k).filter (inL L)).map tieD)), a8, a9, a10]) (M' := M ++ [.lst (if fr L false k then A ++ [.int k] else A), .lst B]) ?_).trans ?_
  · have t : ∀ X, eval gl cf (.not (.var 7)) [a0, a1, some (.ref r), some (.int k), a4, some (.ref (M.length + 0)), some (.ref (M.length + 1)), some (.lst (((getR L k).filter (inL L)).map tieD)), a8, a9, a10] X = .ok (.bl (fr L false k)) X := fun X => by
      refine (ev_not (v := !(((getR L k).filter (inL L)).map tieD).isEmpty) rfl rfl).trans ?_
      rw [Bool.not_not, empty_map, free0]
    cases hq : fr L false k with
    | false =>
      rw [hq] at t
      exact ex_ifF (t _) rfl
    | true =>
      rw [hq] at t
      refine (ex_ifT (t _) rfl).trans ((exec_seq (ex_expr ((ev_bm rfl (bmOk_at (A := A) (get_off _ _ 0)) rfl).trans (app_at (get_off _ _ 0) hA)))).trans ?_)
      rw [set_off]
      rfl
  · refine (exec_seq (ρ' := [a0, a1, some (.ref r), some (.int k), a4, some (.ref (M.length + 0)), some (.ref (M.length + 1)), some (.lst (((getR L k).filter (inL L)).map tieD)), a8, a9, a10]) (M' := M ++ [.lst (if fr L false k then A ++ [.int k] else A), .lst (if fr L true k then B ++ [.int k] else B)]) ?_).trans rfl
    have t : ∀ X, eval gl cf (.not (.comp false [10] (.name 10) .seq (.cons (.var 7) .nil) (.idx (.var 10) (.cst (.int 1))) (.var 10))) [a0, a1, some (.ref r), some (.int k), a4, some (.ref (M.length + 0)), some (.ref (M.length + 1)), some (.lst (((getR L k).filter (inL L)).map tieD)), a8, a9, a10] X = .ok (.bl (fr L true k)) X := fun X => by
      refine (ev_not (v := !((((getR L k).filter (inL L)).filter (·.2)).map tieD).isEmpty) (hard_ev _) rfl).trans ?_
      rw [Bool.not_not, empty_map, free1]
    generalize (if fr L false k then A ++ [.int k] else A) = A'
    cases hq : fr L true k with
    | false =>
      rw [hq] at t
      exact ex_ifF (t _) rfl
    | true =>
      rw [hq] at t
      refine (ex_ifT (t _) rfl).trans ((exec_seq (ex_expr ((ev_bm rfl (bmOk_at (A := B) (get_off _ _ 1)) rfl).trans (app_at (get_off _ _ 1) hB)))).trans ?_)
      rw [set_off]
      rfl
theorem lo_for (hr : M[r]? = some (.dK (kvs L))) (hL : L.length ≤ 1000) {a0 a1 a3 a4 a7 a8 a9 a10 : Option D} :
    ∃ b3 b7, exec gl cf sub (.for (.name 3) .seq (.cons (.blt (.sorted false) (.cons (.var 2) .nil)) .nil) loF) [a0, a1, some (.ref r), a3, a4, some (.ref (M.length + 0)), some (.ref (M.length + 1)), a7, a8, a9, a10] (M ++ [.lst [], .lst []]) =
      .nx [a0, a1, some (.ref r), b3, a4, some (.ref (M.length + 0)), some (.ref (M.length + 1)), b7, a8, a9, a10] (M ++ [.lst ((freeV L false).map D.int), .lst ((freeV L true).map D.int)]) := by
  have hsl : (sortI (keys L)).length ≤ 1000 := by rw [(sortI_perm _).length_eq]; simpa [keys] using hL
  have hr1 : ∀ X, (M ++ X)[r]? = some (.dK (kvs L)) := fun X => get_app hr
  have hsrc : evalL gl cf (.cons (.blt (.sorted false) (.cons (.var 2) .nil)) .nil) [a0, a1, some (.ref r), a3, a4, some (.ref (M.length + 0)), some (.ref (M.length + 1)), a7, a8, a9, a10] (M ++ [.lst [], .lst []]) = .ok [.lst ((sortI (keys L)).map D.int)] (M ++ [.lst [], .lst []]) := by
    refine ev_cons ((ev_blt rfl).trans ?_) ev_nil
    show (match sorted (M ++ [MO.lst [], MO.lst []]) (.ref r) with | some xs => newL false xs (M ++ [MO.lst [], MO.lst []]) | none => .stuck) = _
    rw [sorted_dict (hr1 _)]
    rfl
  rw [ex_for (xs := (sortI (keys L)).map D.int) hsrc rfl]
  obtain ⟨ρ', M', e, pre, post, e1, e2, ⟨b3, b7, e3⟩, e4⟩ := forL_ind (ds := [D.lst ((sortI (keys L)).map D.int)]) (M0 := M ++ [MO.lst [], MO.lst []]) (g := forT gl cf sub (.name 3) loF)
    (fun rst ρ M' => ∃ pre post, sortI (keys L) = pre ++ post ∧ rst = post.map D.int ∧ (∃ b3 b7, ρ = [a0, a1, some (.ref r), b3, a4, some (.ref (M.length + 0)), some (.ref (M.length + 1)), b7, a8, a9, a10]) ∧ M' = M ++ [.lst ((pre.filter (fr L false)).map D.int), .lst ((pre.filter (fr L true)).map D.int)])
    (by
      rintro x rst ρ M' ⟨pre, post, e1, e2, ⟨b3, b7, e3⟩, e4⟩
      refine ⟨rfl, ?_⟩
      cases post with
      | nil => cases e2
      | cons o post =>
        rw [List.map_cons] at e2
        injection e2 with e2 e5
        subst e2 e3 e4
        have hlen : pre.length < 1000 := by have := congrArg List.length e1; simp at this; omega
        have hk : o ∈ keys L := mem_sort.mp (by rw [e1]; simp)
        have hl : ∀ s, ((pre.filter (fr L s)).map D.int).length < big := fun s => by
          have := List.length_filter_le (fr L s) pre
          rw [List.length_map]; unfold big; omega
        refine ⟨_, _, .inl ((forT_eq rfl).trans (lo_turn hr hk (hl false) (hl true))), pre ++ [o], post, by simp [e1], e5, ⟨_, _, rfl⟩, ?_⟩
        have hf : ∀ s, ((pre ++ [o]).filter (fr L s)).map D.int = if fr L s o then (pre.filter (fr L s)).map D.int ++ [D.int o] else (pre.filter (fr L s)).map D.int := fun s => by
          rw [List.filter_append, List.map_append, List.filter_cons]
          cases fr L s o <;> simp
        rw [hf, hf])
    (by rintro ρ M' _; rfl) ((sortI (keys L)).map D.int) [a0, a1, some (.ref r), a3, a4, some (.ref (M.length + 0)), some (.ref (M.length + 1)), a7, a8, a9, a10] (M ++ [.lst [], .lst []]) ⟨[], _, rfl, rfl, ⟨_, _, rfl⟩, rfl⟩
  have : post = [] := by cases post with | nil => rfl | cons _ _ => cases e2
  subst this
  rw [List.append_nil] at e1
  refine ⟨b3, b7, ?_⟩
  rw [e, e3, e4, ← e1]
  rfl
end
end MP

/-! Mp5b: k03's own order, the rest. -/
namespace MP
def zk (ks : List Int) : List (Key × D) := ks.map fun k => (.inl k, .int 0)
theorem kints_zk (ks : List Int) : kintsOf (zk ks) = some ks := by
  unfold zk
  induction ks with
  | nil => rfl
  | cons r L ih => simp [kintsOf, ih]
theorem put_zk (ks : List Int) (o : Int) : dPut (zk ks) (.inl o) (.int 0) = zk (if o ∈ ks then ks else ks ++ [o]) := by
  by_cases h : o ∈ ks
  · rw [if_pos h]
    unfold dPut
    rw [if_pos]
    · unfold zk
      rw [List.map_map]
      refine List.map_congr_left fun k _ => ?_
      simp only [Function.comp]
      split <;> simp_all
    · exact List.any_eq_true.mpr ⟨(.inl o, .int 0), List.mem_map.mpr ⟨o, h, rfl⟩, by simp⟩
  · rw [if_neg h, put_new]
    · simp [zk]
    · intro z
      obtain ⟨x, hx, e⟩ := List.mem_map.mp z
      obtain ⟨k, hk, rfl⟩ := List.mem_map.mp hx
      exact h (by have : k = o := Sum.inl.inj e; rw [← this]; exact hk)
def loG : S := (.seq (.ite (.cmp .In (.var 8) (.var 2))
        (.seq (.sti (.var 4) (.var 8) (.cst (.int 0)))
        .done)
        .done)
      .done)
theorem sort_waits {L : List Rw} {k : Int} {ks : List Int} (hnd : (keys L).Nodup) (h1 : ks.Nodup) (h2 : ∀ o, o ∈ ks ↔ (∃ b, (o, b) ∈ getR L k) ∧ o ∈ keys L) : sortI ks = waitsV L k false := by
  refine (sortI_unique ?_ ?_).symm
  · refine (List.perm_ext_iff_of_nodup ?_ h1).mpr fun o => ?_
    · unfold waitsV
      exact ((sortI_perm _).nodup_iff.mpr hnd).filter _
    · rw [waits_mem, waitOn_false, h2]
      exact and_comm
  · exact (sortI_sorted _).filter _
section
variable {gl : Nat → Option D} {cf : CF} {sub : Nat → Nat → Option Bool} {N : Mem} {r : Nat} {L : List Rw}
theorem later_for (hr : N[r]? = some (.dK (kvs L))) {k : Int} (hk : k ∈ keys L) (hnd : (keys L).Nodup) (hT : (getR L k).length ≤ 1000) {a0 a1 a5 a6 a7 a8 a9 a10 : Option D} :
    ∃ b8 b9 ks, exec gl cf sub (.for (.tup (.cons (.name 8) (.cons (.name 9) .nil))) .seq (.cons (.idx (.var 2) (.var 3)) .nil) loG) [a0, a1, some (.ref r), some (.int k), some (.ref N.length), a5, a6, a7, a8, a9, a10] (N ++ [.dK []]) =
      .nx [a0, a1, some (.ref r), some (.int k), some (.ref N.length), a5, a6, a7, b8, b9, a10] (N ++ [.dK (zk ks)]) ∧ sortI ks = waitsV L k false := by
  have hr1 : ∀ X, (N ++ X)[r]? = some (.dK (kvs L)) := fun X => get_app hr
  rw [ex_for (ds := [tiesD (getR L k)]) (M1 := N ++ [.dK []]) (xs := (getR L k).map tieD) (ev_cons ((ev_idx rfl rfl).trans (idx_dict (hr1 _) hk)) ev_nil) rfl]
  obtain ⟨ρ', M', e, pre, post, ks, e1, e2, ⟨b8, b9, e3⟩, e4, e5, e6, e7⟩ := forL_ind (ds := [tiesD (getR L k)]) (M0 := N ++ [MO.dK []]) (g := forT gl cf sub (.tup (.cons (.name 8) (.cons (.name 9) .nil))) loG)
    (fun rst ρ M' => ∃ pre post ks, getR L k = pre ++ post ∧ rst = post.map tieD ∧ (∃ b8 b9, ρ = [a0, a1, some (.ref r), some (.int k), some (.ref N.length), a5, a6, a7, b8, b9, a10]) ∧ M' = N ++ [.dK (zk ks)] ∧ ks.Nodup ∧ ks.length ≤ pre.length ∧ ∀ o, o ∈ ks ↔ (∃ b, (o, b) ∈ pre) ∧ o ∈ keys L)
    (by
      rintro x rst ρ M' ⟨pre, post, ks, e1, e2, ⟨b8, b9, e3⟩, e4, e5, e6, e7⟩
      refine ⟨rfl, ?_⟩
      cases post with
      | nil => cases e2
      | cons p post =>
        rw [List.map_cons] at e2
        injection e2 with e2 e8
        subst e2 e3 e4
        obtain ⟨o, b⟩ := p
        have hlen : pre.length < 1000 := by have := congrArg List.length e1; simp at this; omega
        have t : eval gl cf (.cmp .In (.var 8) (.var 2)) [a0, a1, some (.ref r), some (.int k), some (.ref N.length), a5, a6, a7, some (.int o), some (.bl b), a10] (N ++ [.dK (zk ks)]) = .ok (.bl (decide (o ∈ keys L))) (N ++ [.dK (zk ks)]) := by
          show R.ofB (isIn (N ++ [MO.dK (zk ks)]) (.int o) (.ref r)) (N ++ [MO.dK (zk ks)]) = _
          rw [in_dict (hr1 _)]
          rfl
        by_cases ho : o ∈ keys L
        · rw [decide_eq_true ho] at t
          refine ⟨[a0, a1, some (.ref r), some (.int k), some (.ref N.length), a5, a6, a7, some (.int o), some (.bl b), a10], N ++ [.dK (zk (if o ∈ ks then ks else ks ++ [o]))], .inl ?_, pre ++ [(o, b)], post, if o ∈ ks then ks else ks ++ [o], by simp [e1], e8, ⟨_, _, rfl⟩, rfl, ?_, ?_, ?_⟩
          · refine (forT_eq rfl).trans ((exec_seq ((ex_ifT t rfl).trans ((exec_seq ?_).trans rfl))).trans rfl)
            show (match setIt (N ++ [MO.dK (zk ks)]) (.ref N.length) (.int o) (.int 0) with | some M' => F.nx [a0, a1, some (.ref r), some (.int k), some (.ref N.length), a5, a6, a7, some (.int o), some (.bl b), a10] M' | none => .stuck) = _
            have : setIt (N ++ [MO.dK (zk ks)]) (.ref N.length) (.int o) (.int 0) = some (N ++ [.dK (zk (if o ∈ ks then ks else ks ++ [o]))]) := by
              simp only [setIt, get_end, keyOf, set_end, put_zk]
              rw [if_pos (by show (zk ks).length < big; unfold zk; rw [List.length_map]; unfold big; omega)]
            rw [this]
          · by_cases h : o ∈ ks
            · rw [if_pos h]; exact e5
            · rw [if_neg h, List.nodup_append]
              refine ⟨e5, by simp, fun a ha b hb => ?_⟩
              rw [List.mem_singleton.mp hb]
              rintro rfl
              exact h ha
          · by_cases h : o ∈ ks
            · rw [if_pos h]; simp; omega
            · rw [if_neg h]; simp; omega
          · intro z
            have hz : z ∈ (if o ∈ ks then ks else ks ++ [o]) ↔ z ∈ ks ∨ z = o := by
              by_cases h : o ∈ ks
              · rw [if_pos h]
                constructor
                · exact .inl
                · rintro (q | rfl)
                  · exact q
                  · exact h
              · rw [if_neg h]; simp
            rw [hz, e7]
            constructor
            · rintro (⟨⟨b', h1⟩, h2⟩ | rfl)
              · exact ⟨⟨b', List.mem_append_left _ h1⟩, h2⟩
              · exact ⟨⟨b, by simp⟩, ho⟩
            · rintro ⟨⟨b', h1⟩, h2⟩
              rcases List.mem_append.mp h1 with h1 | h1
              · exact .inl ⟨⟨b', h1⟩, h2⟩
              · have := List.mem_singleton.mp h1
                injection this with h3 _
                exact .inr h3
        · rw [decide_eq_false ho] at t
          refine ⟨_, _, .inl ((forT_eq rfl).trans ((exec_seq (ex_ifF t rfl)).trans rfl)), pre ++ [(o, b)], post, ks, by simp [e1], e8, ⟨_, _, rfl⟩, rfl, e5, by simp; omega, ?_⟩
          intro z
          rw [e7]
          constructor
          · rintro ⟨⟨b', h1⟩, h2⟩
            exact ⟨⟨b', List.mem_append_left _ h1⟩, h2⟩
          · rintro ⟨⟨b', h1⟩, h2⟩
            rcases List.mem_append.mp h1 with h1 | h1
            · exact ⟨⟨b', h1⟩, h2⟩
            · have := List.mem_singleton.mp h1
              injection this with h3 _
              rw [h3] at h2
              exact absurd h2 ho)
    (by rintro ρ M' _; rfl) ((getR L k).map tieD) [a0, a1, some (.ref r), some (.int k), some (.ref N.length), a5, a6, a7, a8, a9, a10] (N ++ [.dK []]) ⟨[], _, [], rfl, rfl, ⟨_, _, rfl⟩, rfl, List.nodup_nil, Nat.le_refl _, by simp⟩
  have : post = [] := by cases post with | nil => rfl | cons _ _ => cases e2
  subst this
  rw [List.append_nil] at e1
  refine ⟨b8, b9, ks, ?_, sort_waits hnd e5 fun o => by rw [e7, e1]⟩
  rw [e, e3, e4]
end
def loB : S :=
  (.seq (.par 1 2 (.tup .nil) (.blt .dict (.cons (.var 0) .nil)))
  (.seq (.whl 1000 (.var 2)
    (.seq (.par 5 6 (.lst true .nil) (.lst true .nil))
    (.seq (.for (.name 3) .seq (.cons (.blt (.sorted false) (.cons (.var 2) .nil)) .nil) loF)
    (.seq (.ite (.not (.bin (.add false) (.var 5) (.var 6)))
      (.seq (.ret (.cst (.str "Ring")))
      .done)
      .done)
    (.seq (.asg (.name 3) (.idx (.bin (.add false) (.var 5) (.var 6)) (.cst (.int 0))))
    (.seq (.asg (.name 4) (.dnew false))
    (.seq (.for (.tup (.cons (.name 8) (.cons (.name 9) .nil))) .seq (.cons (.idx (.var 2) (.var 3)) .nil) loG)
    (.seq (.asg (.name 1) (.bin (.add false) (.var 1) (.tup (.cons (.tup (.cons (.var 3) (.cons (.blt .tuple (.cons (.blt (.sorted false) (.cons (.var 4) .nil)) .nil)) .nil))) .nil))))
    (.seq (.expr (.bm .dpop (.var 2) (.cons (.var 3) .nil)))
    .done)))))))))
  (.seq (.ret (.var 1))
  .done)))
theorem getR_len {L : List Rw} {k : Int} {m : Nat} (h : ∀ r ∈ L, r.2.length ≤ m) : (getR L k).length ≤ m := by
  unfold getR
  cases q : L.find? (fun r => decide (r.1 = k)) with
  | none => simp
  | some r => exact h r (List.mem_of_find?_eq_some q)
theorem free_len (L : List Rw) (s : Bool) : (freeV L s).length ≤ L.length := by
  have := List.length_filter_le (fun k => (waitsV L k s).isEmpty) (sortI (keys L))
  rw [(sortI_perm _).length_eq] at this
  simpa [freeV, keys] using this
def ringD : Option (List Step) → D
  | some o => orderD o
  | none => .str "Ring"
theorem flat_ring (o : Option (List Step)) : (ringD o).flat = true := by
  cases o with
  | none => rfl
  | some o => exact flat_order o
theorem lo_ok {P : Prog} {n lI : Nat} (hl : P.funs[lI]? = some ⟨1, 11, false, loB⟩) {rows : List Rw} (hnd : (keys rows).Nodup) (hlen : rows.length ≤ 500) (hties : ∀ r ∈ rows, r.2.length ≤ 1000) (M : Mem) : callF P (n + 1) lI [rowsD rows] M = .ok (ringD (orderV rows)) M := by
  rw [callF_eq hl rfl]
  have key : ∃ X, exec P.gl (callF P n) P.subAt loB (start 11 [rowsD rows]) M = .rt (ringD (orderV rows)) (M ++ X) := by
    unfold loB
    have s1 : ∀ t, exec P.gl (callF P n) P.subAt (.seq (.par 1 2 (.tup .nil) (.blt .dict (.cons (.var 0) .nil))) t) (start 11 [rowsD rows]) M = exec P.gl (callF P n) P.subAt t [some (rowsD rows), some (orderD []), some (.ref M.length), none, none, none, none, none, none, none, none] (M ++ [.dK (kvs rows)]) := fun t =>
      exec_seq (ex_par (x := orderD []) (M1 := M) rfl ((ev_blt rfl).trans (dict_rows hnd M)))
    rw [s1]
    have loop : ((∃ ρ' X, exec P.gl (callF P n) P.subAt (.whl 1000 (.var 2)
    (.seq (.par 5 6 (.lst true .nil) (.lst true .nil))
    (.seq (.for (.name 3) .seq (.cons (.blt (.sorted false) (.cons (.var 2) .nil)) .nil) loF)
    (.seq (.ite (.not (.bin (.add false) (.var 5) (.var 6)))
      (.seq (.ret (.cst (.str "Ring")))
      .done)
      .done)
    (.seq (.asg (.name 3) (.idx (.bin (.add false) (.var 5) (.var 6)) (.cst (.int 0))))
    (.seq (.asg (.name 4) (.dnew false))
    (.seq (.for (.tup (.cons (.name 8) (.cons (.name 9) .nil))) .seq (.cons (.idx (.var 2) (.var 3)) .nil) loG)
    (.seq (.asg (.name 1) (.bin (.add false) (.var 1) (.tup (.cons (.tup (.cons (.var 3) (.cons (.blt .tuple (.cons (.blt (.sorted false) (.cons (.var 4) .nil)) .nil)) .nil))) .nil))))
    (.seq (.expr (.bm .dpop (.var 2) (.cons (.var 3) .nil)))
    .done))))))))) [some (rowsD rows), some (orderD []), some (.ref M.length), none, none, none, none, none, none, none, none] (M ++ [.dK (kvs rows)]) = .nx ρ' (M ++ X) ∧ ρ'[1]? = some (some (ringD (orderV rows)))) ∨ ∃ X, exec P.gl (callF P n) P.subAt (.whl 1000 (.var 2)
    (.seq (.par 5 6 (.lst true .nil) (.lst true .nil))
    (.seq (.for (.name 3) .seq (.cons (.blt (.sorted false) (.cons (.var 2) .nil)) .nil) loF)
    (.seq (.ite (.not (.bin (.add false) (.var 5) (.var 6)))
      (.seq (.ret (.cst (.str "Ring")))
      .done)
      .done)
    (.seq (.asg (.name 3) (.idx (.bin (.add false) (.var 5) (.var 6)) (.cst (.int 0))))
    (.seq (.asg (.name 4) (.dnew false))
    (.seq (.for (.tup (.cons (.name 8) (.cons (.name 9) .nil))) .seq (.cons (.idx (.var 2) (.var 3)) .nil) loG)
    (.seq (.asg (.name 1) (.bin (.add false) (.var 1) (.tup (.cons (.tup (.cons (.var 3) (.cons (.blt .tuple (.cons (.blt (.sorted false) (.cons (.var 4) .nil)) .nil)) .nil))) .nil))))
    (.seq (.expr (.bm .dpop (.var 2) (.cons (.var 3) .nil)))
    .done))))))))) [some (rowsD rows), some (orderD []), some (.ref M.length), none, none, none, none, none, none, none, none] (M ++ [.dK (kvs rows)]) = .rt (ringD (orderV rows)) (M ++ X)) := by
      rw [ex_whl]
      refine whlL_ind (fun k ρ M' => ∃ found L J v3 v4 v5 v6 v7 v8 v9 v10, ρ = [some (rowsD rows), some (orderD found), some (.ref M.length), v3, v4, v5, v6, v7, v8, v9, v10] ∧ M' = M ++ .dK (kvs L) :: J ∧ L.length = k ∧ (keys L).Nodup ∧ (∀ r ∈ L, r.2.length ≤ 1000) ∧ found.length + L.length = rows.length ∧ orderV rows = (orderN k L).map (found ++ ·))
        (fun f => (∃ ρ' X, f = .nx ρ' (M ++ X) ∧ ρ'[1]? = some (some (ringD (orderV rows)))) ∨ ∃ X, f = .rt (ringD (orderV rows)) (M ++ X)) 1000 rows.length _ _ (by omega) ?_ ⟨[], rows, [], none, none, none, none, none, none, none, none, rfl, rfl, rfl, hnd, hties, by simp, by unfold orderV; simp⟩
      rintro k ρ M' ⟨found, L, J, v3, v4, v5, v6, v7, v8, v9, v10, rfl, rfl, rfl, hndL, htL, hfl, hord⟩
      generalize hM' : M ++ MO.dK (kvs L) :: J = M'
      have hr : M'[M.length]? = some (.dK (kvs L)) := by rw [← hM']; simp
      have hset : ∀ (Y : Mem) (o : MO), (M' ++ Y).set M.length o = M ++ o :: (J ++ Y) := fun Y o => by
        rw [← hM', List.append_assoc, List.set_append_right _ _ (Nat.le_refl _)]; simp
      have htr : ((eval P.gl (callF P n) (.var 2) [some (rowsD rows), some (orderD found), some (.ref M.length), v3, v4, v5, v6, v7, v8, v9, v10] M').bind toTest) = .ok (!(kvs L).isEmpty) M' := by
        show toTest (.ref M.length) M' = _
        simp only [toTest, truth, hr]
      cases L with
      | nil =>
        refine .inl ⟨M', htr, .inl ⟨_, .dK (kvs []) :: J, by rw [hM'], ?_⟩⟩
        rw [hord]
        simp [orderN, ringD]
      | cons r0 L0 =>
        generalize hLe : r0 :: L0 = L at *
        have hne : L ≠ [] := by rw [← hLe]; simp
        have hLlen : L.length ≤ 1000 := by omega
        have hpos : 0 < L.length := List.length_pos_iff.mpr hne
        obtain ⟨k, hk⟩ : ∃ k, L.length = k + 1 := ⟨L.length - 1, by omega⟩
        refine .inr ⟨M', htr.trans ?_, ?_⟩
        · rw [show (kvs L).isEmpty = false by rw [← hLe]; rfl]
          rfl
        have ho : orderN L.length L = match pickK L with | none => none | some q => (orderN k (rest L q)).map ((q, waitsV L q false) :: ·) := by
          rw [hk]
          simp only [orderN, hne, if_false] <;> (cases pickK L <;> rfl)
        obtain ⟨b3, b7, hfor⟩ := lo_for (gl := P.gl) (cf := callF P n) (sub := P.subAt) hr hLlen (a0 := some (rowsD rows)) (a1 := some (orderD found)) (a3 := v3) (a4 := v4) (a7 := v7) (a8 := v8) (a9 := v9) (a10 := v10)
        have hpar : exec P.gl (callF P n) P.subAt (.par 5 6 (.lst true .nil) (.lst true .nil)) [some (rowsD rows), some (orderD found), some (.ref M.length), v3, v4, v5, v6, v7, v8, v9, v10] M' = .nx [some (rowsD rows), some (orderD found), some (.ref M.length), v3, v4, some (.ref (M'.length + 0)), some (.ref (M'.length + 1)), v7, v8, v9, v10] (M' ++ [.lst [], .lst []]) := by
          refine (ex_par (x := .ref (M'.length + 0)) (M1 := M' ++ [.lst []]) (y := .ref (M'.length + 1)) (M2 := M' ++ [.lst [], .lst []]) rfl ?_).trans rfl
          show R.ok (D.ref (M' ++ [MO.lst []]).length) ((M' ++ [MO.lst []]) ++ [MO.lst []]) = _
          rw [List.append_assoc, List.length_append]
          rfl
        generalize hN : M' ++ [MO.lst ((freeV L false).map D.int), MO.lst ((freeV L true).map D.int)] = N at hfor
        have hrN : N[M.length]? = some (.dK (kvs L)) := by rw [← hN]; exact get_app hr
        have h5 : N[M'.length + 0]? = some (.lst ((freeV L false).map D.int)) := by rw [← hN, get_off]; rfl
        have h6 : N[M'.length + 1]? = some (.lst ((freeV L true).map D.int)) := by rw [← hN, get_off]; rfl
        have hadd : ∀ b3 b4 b7 b8 b9 b10, eval P.gl (callF P n) (.bin (.add false) (.var 5) (.var 6)) [some (rowsD rows), some (orderD found), some (.ref M.length), b3, b4, some (.ref (M'.length + 0)), some (.ref (M'.length + 1)), b7, b8, b9, b10] N = .ok (.lst ((freeV L false ++ freeV L true).map D.int)) N := fun b3 b4 b7 b8 b9 b10 => by
          refine (ev_bin rfl rfl).trans ?_
          have hl2 : ((freeV L false).map D.int).length + ((freeV L true).map D.int).length ≤ big := by
            have h1 := free_len L false
            have h2 := free_len L true
            rw [List.length_map, List.length_map]
            unfold big
            omega
          simp only [op2, deref, h5, h6, hl2, if_true, newL, List.map_append]
          rfl
        have htest : ∀ b3 b4 b7 b8 b9 b10, eval P.gl (callF P n) (.not (.bin (.add false) (.var 5) (.var 6))) [some (rowsD rows), some (orderD found), some (.ref M.length), b3, b4, some (.ref (M'.length + 0)), some (.ref (M'.length + 1)), b7, b8, b9, b10] N = .ok (.bl (freeV L false ++ freeV L true).isEmpty) N := fun b3 b4 b7 b8 b9 b10 => by
          refine (ev_not (v := !((freeV L false ++ freeV L true).map D.int).isEmpty) (hadd _ _ _ _ _ _) rfl).trans ?_
          rw [Bool.not_not, empty_map]
        have st1 : ∀ t, exec P.gl (callF P n) P.subAt (.seq (.par 5 6 (.lst true .nil) (.lst true .nil)) (.seq (.for (.name 3) .seq (.cons (.blt (.sorted false) (.cons (.var 2) .nil)) .nil) loF) t)) [some (rowsD rows), some (orderD found), some (.ref M.length), v3, v4, v5, v6, v7, v8, v9, v10] M' =
            exec P.gl (callF P n) P.subAt t [some (rowsD rows), some (orderD found), some (.ref M.length), b3, v4, some (.ref (M'.length + 0)), some (.ref (M'.length + 1)), b7, v8, v9, v10] N := fun t => (exec_seq hpar).trans (exec_seq hfor)
        rw [st1]
        have hNX : ∃ X, N = M ++ X := ⟨.dK (kvs L) :: J ++ [MO.lst ((freeV L false).map D.int), MO.lst ((freeV L true).map D.int)], by rw [← hN, ← hM', List.append_assoc]⟩
        obtain ⟨NX, hNX⟩ := hNX
        cases hpk : pickK L with
        | none =>
          have hnil : freeV L false ++ freeV L true = [] := by
            unfold pickK at hpk
            exact List.head?_eq_none_iff.mp hpk
          rw [hnil] at htest
          refine .inr (.inr (.inl ⟨.str "Ring", N, exec_seq_rt ((ex_ifT (htest _ _ _ _ _ _) rfl).trans (exec_seq_rt rfl)), .inr ⟨NX, ?_⟩⟩))
          rw [hord, ho, hpk, hNX]
          rfl
        | some q =>
          have hqm := pick_mem hpk
          obtain ⟨tl, htl⟩ : ∃ tl, freeV L false ++ freeV L true = q :: tl := by
            unfold pickK at hpk
            cases hf : freeV L false ++ freeV L true with
            | nil => rw [hf] at hpk; cases hpk
            | cons a tl => rw [hf] at hpk; cases hpk; exact ⟨tl, rfl⟩
          rw [htl] at htest
          have hlr := length_rest hndL hqm
          obtain ⟨b8, b9, ks, hfor2, hks⟩ := later_for (gl := P.gl) (cf := callF P n) (sub := P.subAt) hrN hqm hndL (getR_len htL) (a0 := some (rowsD rows)) (a1 := some (orderD found)) (a5 := some (.ref (M'.length + 0))) (a6 := some (.ref (M'.length + 1))) (a7 := b7) (a8 := v8) (a9 := v9) (a10 := v10)
          have hidx : eval P.gl (callF P n) (.idx (.bin (.add false) (.var 5) (.var 6)) (.cst (.int 0))) [some (rowsD rows), some (orderD found), some (.ref M.length), b3, v4, some (.ref (M'.length + 0)), some (.ref (M'.length + 1)), b7, v8, v9, v10] N = .ok (.int q) N := by
            refine (ev_idx (hadd _ _ _ _ _ _) rfl).trans ?_
            rw [htl, List.map_cons]
            simp only [idx, atD, at0]
          have hrN2 : (N ++ [MO.dK (zk ks)])[M.length]? = some (.dK (kvs L)) := get_app hrN
          have hlat : eval P.gl (callF P n) (.bin (.add false) (.var 1) (.tup (.cons (.tup (.cons (.var 3) (.cons (.blt .tuple (.cons (.blt (.sorted false) (.cons (.var 4) .nil)) .nil)) .nil))) .nil))) [some (rowsD rows), some (orderD found), some (.ref M.length), some (.int q), some (.ref N.length), some (.ref (M'.length + 0)), some (.ref (M'.length + 1)), b7, b8, b9, v10] (N ++ [.dK (zk ks)]) = .ok (orderD (found ++ [(q, waitsV L q false)])) (N ++ [.dK (zk ks)]) := by
            have e1 : eval P.gl (callF P n) (.blt (.sorted false) (.cons (.var 4) .nil)) [some (rowsD rows), some (orderD found), some (.ref M.length), some (.int q), some (.ref N.length), some (.ref (M'.length + 0)), some (.ref (M'.length + 1)), b7, b8, b9, v10] (N ++ [.dK (zk ks)]) = .ok (.lst ((waitsV L q false).map D.int)) (N ++ [.dK (zk ks)]) := by
              refine (ev_blt rfl).trans ?_
              simp only [bltF, sorted, get_end, kints_zk, Option.map_some, hks]
              rfl
            refine (ev_bin (x := orderD found) (y := .tup [stepD (q, waitsV L q false)]) rfl (ev_tup (ev_cons (ev_tup (ev_cons rfl (ev_cons ((ev_blt (ev_cons e1 ev_nil)).trans rfl) ev_nil)) (by show 2 ≤ big; decide)) ev_nil) (by show 1 ≤ big; decide))).trans ?_
            show (if (found.map stepD).length + 1 ≤ big then R.ok (D.tup (found.map stepD ++ [stepD (q, waitsV L q false)])) (N ++ [MO.dK (zk ks)]) else .stuck) = _
            rw [if_pos (by rw [List.length_map]; unfold big; omega)]
            unfold orderD
            rw [List.map_append]
            rfl
          refine .inl ⟨[some (rowsD rows), some (orderD (found ++ [(q, waitsV L q false)])), some (.ref M.length), some (.int q), some (.ref N.length), some (.ref (M'.length + 0)), some (.ref (M'.length + 1)), b7, b8, b9, v10], M ++ .dK (kvs (rest L q)) :: (J ++ [MO.lst ((freeV L false).map D.int), MO.lst ((freeV L true).map D.int), .dK (zk ks)]), (rest L q).length, .inl ?_, by omega, found ++ [(q, waitsV L q false)], rest L q, J ++ [MO.lst ((freeV L false).map D.int), MO.lst ((freeV L true).map D.int), .dK (zk ks)], _, _, _, _, _, _, _, _, rfl, rfl, rfl, nodup_rest hndL q, fun r hr => htL r (List.mem_filter.mp hr).1, by simp; omega, ?_⟩
          · refine (exec_seq (ex_ifF (htest _ _ _ _ _ _) rfl)).trans ?_
            refine (exec_seq (ex_asg hidx rfl)).trans ?_
            refine (exec_seq (ρ' := [some (rowsD rows), some (orderD found), some (.ref M.length), some (.int q), some (.ref N.length), some (.ref (M'.length + 0)), some (.ref (M'.length + 1)), b7, v8, v9, v10]) (M' := N ++ [.dK []]) rfl).trans ?_
            refine (exec_seq hfor2).trans ?_
            refine (exec_seq (ex_asg hlat rfl)).trans ?_
            refine (exec_seq (ex_expr (x := tiesD (getR L q)) (M1 := M ++ .dK (kvs (rest L q)) :: (J ++ [MO.lst ((freeV L false).map D.int), MO.lst ((freeV L true).map D.int), .dK (zk ks)])) ((ev_bm (x := .ref M.length) rfl ?_ rfl).trans ?_))).trans rfl
            · simp only [bmOk, hrN2]
              rfl
            · simp only [bmF, hrN2, keyOf, dGet_in hqm, drop_kvs]
              rw [← hN, List.append_assoc, hset]
              rfl
          · rw [hord, ho, hpk]
            have e5 : (rest L q).length = k := by omega
            rw [e5]
            show ((orderN k (rest L q)).map ((q, waitsV L q false) :: ·)).map (found ++ ·) = _
            rw [Option.map_map]
            congr 1
            funext z
            simp
    rcases loop with ⟨ρ', X, e1, e2⟩ | ⟨X, e1⟩
    · refine ⟨X, (exec_seq e1).trans (exec_seq_rt (ex_ret ?_))⟩
      simp only [eval, e2]
    · exact ⟨X, exec_seq_rt e1⟩
  obtain ⟨X, key⟩ := key
  rw [key]
  exact fin_app (flat_ring _)
end MP

/-! Mp5c: what an order is. -/
namespace MP
def ordK (o : List Step) : List Int := o.map (·.1)
theorem getR_rest {L : List Rw} {q k : Int} (h : k ≠ q) : getR (rest L q) k = getR L k := by
  unfold getR rest
  rw [List.find?_filter]
  congr 2
  congr 1
  funext r
  by_cases h1 : r.1 = k
  · have : r.1 ≠ q := fun e => h (h1.symm.trans e)
    simp [h1, h]
  · simp [h1]
theorem perm_rest {L : List Rw} {q : Int} (h : (keys L).Nodup) (hq : q ∈ keys L) : (q :: keys (rest L q)).Perm (keys L) := by
  have e : keys (rest L q) = (keys L).erase q := by
    rw [keys_rest, h.erase_eq_filter]
    refine List.filter_congr fun x _ => ?_
    by_cases z : x = q <;> simp [z]
  rw [e]
  exact (List.perm_cons_erase hq).symm
theorem order_perm : ∀ (n : Nat) (L : List Rw) (o : List Step), (keys L).Nodup → orderN n L = some o → (ordK o).Perm (keys L)
  | 0, L, o, _, h => by
    unfold orderN at h
    split at h
    · rename_i e
      cases h
      subst e
      exact List.Perm.refl _
    · cases h
  | n + 1, L, o, hnd, h => by
    unfold orderN at h
    split at h
    · rename_i e
      cases h
      subst e
      exact List.Perm.refl _
    · cases hp : pickK L with
      | none => rw [hp] at h; cases h
      | some q =>
        rw [hp] at h
        obtain ⟨o', h1, rfl⟩ := Option.map_eq_some_iff.mp h
        have ih := order_perm n (rest L q) o' (nodup_rest hnd q) h1
        exact (ih.cons q).trans (perm_rest hnd (pick_mem hp))
theorem pick_strict {L : List Rw} {q : Int} (h : pickK L = some q) : waitsV L q true = [] := by
  have h1 := List.mem_of_mem_head? (show q ∈ (freeV L false ++ freeV L true).head? from h)
  rcases List.mem_append.mp h1 with h2 | h2
  · have h3 := (List.mem_filter.mp h2).2
    rw [List.eq_nil_iff_forall_not_mem]
    intro o ho
    obtain ⟨h4, h5⟩ := waits_mem.mp ho
    exact (empty_iff.mp h3) o (waits_mem.mpr ⟨h4, waitOn_false.mpr ⟨true, waitOn_true.mp h5⟩⟩)
  · have h3 := (List.mem_filter.mp h2).2
    exact List.isEmpty_iff.mp h3
/-- what stands at each place of an order -/
theorem order_at : ∀ (n : Nat) (L : List Rw) (o : List Step), (keys L).Nodup → orderN n L = some o → ∀ (i : Nat) (k : Int) (ws : List Int), o[i]? = some (k, ws) →
    (∀ x ∈ ws, x ∈ (ordK o).drop i ∧ ∃ b, (x, b) ∈ getR L k) ∧ (∀ x ∈ (ordK o).drop i, (x, true) ∉ getR L k) ∧ k ∈ keys L
  | 0, L, o, _, h, i, k, ws, hi => by
    unfold orderN at h
    split at h
    · cases h
      simp at hi
    · cases h
  | n + 1, L, o, hnd, h, i, k, ws, hi => by
    have hperm := order_perm (n + 1) L o hnd h
    unfold orderN at h
    split at h
    · cases h
      simp at hi
    · cases hp : pickK L with
      | none => rw [hp] at h; cases h
      | some q =>
        rw [hp] at h
        obtain ⟨o', h1, rfl⟩ := Option.map_eq_some_iff.mp h
        cases i with
        | zero =>
          simp at hi
          obtain ⟨rfl, rfl⟩ := hi
          refine ⟨fun x hx => ?_, fun x hx hb => ?_, pick_mem hp⟩
          · obtain ⟨h2, h3⟩ := waits_mem.mp hx
            exact ⟨hperm.mem_iff.mpr h2, waitOn_false.mp h3⟩
          · have hx' : x ∈ keys L := hperm.mem_iff.mp hx
            have h4 : x ∈ waitsV L q true := waits_mem.mpr ⟨hx', waitOn_true.mpr hb⟩
            rw [pick_strict hp] at h4
            cases h4
        | succ i =>
          have hi' : o'[i]? = some (k, ws) := by simpa using hi
          obtain ⟨h2, h3, h4⟩ := order_at n (rest L q) o' (nodup_rest hnd q) h1 i k ws hi'
          have hkq : k ≠ q := by
            rw [keys_rest] at h4
            simpa using (List.mem_filter.mp h4).2
          rw [getR_rest hkq] at h2 h3
          refine ⟨h2, h3, ?_⟩
          rw [keys_rest] at h4
          exact (List.mem_filter.mp h4).1
/-! ### rows without ties -/
def bare (ks : List Int) : List Rw := ks.map fun k => (k, [])
theorem keys_bare (ks : List Int) : keys (bare ks) = ks := by
  unfold keys bare
  rw [List.map_map]
  exact List.map_id ks
theorem getR_bare (ks : List Int) (k : Int) : getR (bare ks) k = [] := by
  unfold getR bare
  cases q : (ks.map fun k => ((k, []) : Rw)).find? (fun r => decide (r.1 = k)) with
  | none => rfl
  | some r =>
    obtain ⟨x, _, e⟩ := List.mem_map.mp (List.mem_of_find?_eq_some q)
    rw [← e]
    rfl
theorem waits_bare (ks : List Int) (k : Int) (s : Bool) : waitsV (bare ks) k s = [] := by
  unfold waitsV
  rw [getR_bare]
  exact List.filter_eq_nil_iff.mpr fun x _ => by simp [waitOn]
theorem free_bare (ks : List Int) (s : Bool) : freeV (bare ks) s = sortI ks := by
  unfold freeV
  rw [keys_bare]
  exact List.filter_eq_self.mpr fun x _ => by rw [waits_bare]; rfl
theorem rest_bare {k : Int} {ks : List Int} (h : (k :: ks).Nodup) : rest (bare (k :: ks)) k = bare ks := by
  unfold rest bare
  rw [List.map_cons, List.filter_cons]
  simp only [ne_eq, not_true_eq_false, decide_false, Bool.false_eq_true, if_false]
  rw [List.filter_eq_self]
  intro r hr
  obtain ⟨x, hx, rfl⟩ := List.mem_map.mp hr
  have : x ≠ k := fun e => (List.nodup_cons.mp h).1 (e ▸ hx)
  simpa using this
theorem sort_sorted {l : List Int} (h : l.Pairwise (· ≤ ·)) : sortI l = l := (sortI_unique (List.Perm.refl l) h).symm
theorem order_bare : ∀ (ks : List Int), ks.Nodup → ks.Pairwise (· ≤ ·) → orderN ks.length (bare ks) = some (ks.map fun k => (k, []))
  | [], _, _ => rfl
  | k :: ks, hnd, hs => by
    have hp : pickK (bare (k :: ks)) = some k := by
      unfold pickK
      rw [free_bare, sort_sorted hs]
      rfl
    have ih := order_bare ks (List.nodup_cons.mp hnd).2 (List.pairwise_cons.mp hs).2
    show orderN (ks.length + 1) (bare (k :: ks)) = _
    unfold orderN
    rw [if_neg (by simp [bare]), hp]
    show ((orderN ks.length (rest (bare (k :: ks)) k)).map ((k, waitsV (bare (k :: ks)) k false) :: ·)) = _
    rw [rest_bare hnd, ih, waits_bare]
    rfl
/-! ### the numbers -/
def numsV (m : Int) (c : Nat) : List Int := (List.range c).map fun i : Nat => (i : Int) * m
theorem nums_sorted (m : Int) (hm : 0 < m) (c : Nat) : (numsV m c).Pairwise (· < ·) := by
  unfold numsV
  rw [List.pairwise_map]
  refine (List.pairwise_lt_range (n := c)).imp fun {a b} h => ?_
  have h1 : (a : Int) < (b : Int) := by omega
  exact Int.mul_lt_mul_of_pos_right h1 hm
theorem nums_nodup (m : Int) (hm : 0 < m) (c : Nat) : (numsV m c).Nodup := (nums_sorted m hm c).imp fun h => Int.ne_of_lt h
theorem nums_le (m : Int) (hm : 0 < m) (c : Nat) : (numsV m c).Pairwise (· ≤ ·) := (nums_sorted m hm c).imp fun h => Int.le_of_lt h
/-! ### data -/
theorem in_ints {M : Mem} {l : List Int} {o : Int} : isIn M (.int o) (.lst (l.map D.int)) = some (decide (o ∈ l)) := by
  have e : ((l.map D.int).any fun z => z.eqv (.int o)) = decide (o ∈ l) := by
    induction l with
    | nil => rfl
    | cons a l ih =>
      rw [List.map_cons, List.any_cons, ih]
      simp only [D.eqv, List.mem_cons]
      by_cases h1 : a = o
      · subst h1; simp
      · have h2 : o ≠ a := fun e => h1 e.symm
        simp [h1, h2]
  show (if (D.int o).good && (D.lst (l.map D.int)).good then some ((l.map D.int).any fun z => z.eqv (.int o)) else none) = _
  rw [e, good_lints]
  rfl
theorem tree_order (l : List Step) : (orderD l).tree = true := by
  simp only [orderD, D.tree]
  induction l with
  | nil => rfl
  | cons a l ih =>
    have := tree_ints a.2
    simp [D.treeL, stepD, D.tree, ih, this]
theorem tree_ring (o : Option (List Step)) : (ringD o).tree = true := by
  cases o with
  | none => rfl
  | some o => exact tree_order o
theorem depth_step (s : Step) : (stepD s).depth = 2 := by
  simp only [stepD, D.depth, D.depthL, intsD, depthL_ints]
  rfl
theorem depth_order (l : List Step) : (orderD l).depth ≤ 3 := by
  simp only [orderD, D.depth]
  have : D.depthL (l.map stepD) ≤ 2 := by
    induction l with
    | nil => simp [D.depthL]
    | cons a l ih => simp only [List.map_cons, D.depthL, depth_step]; omega
  omega
theorem depth_ring (o : Option (List Step)) : (ringD o).depth ≤ 3 := by
  cases o with
  | none => simp [ringD, D.depth]
  | some o => exact depth_order o
theorem plain_order (l : List Step) : (orderD l).plain = true := by
  simp only [orderD, D.plain]
  induction l with
  | nil => rfl
  | cons a l ih => simp [D.plainL, stepD, D.plain, intsD, plainL_ints, ih]
theorem good_order (l : List Step) : (orderD l).good = true := by
  have := depth_order l
  simp only [D.good, plain_order, Bool.true_and, decide_eq_true_eq]
  omega
theorem bare_order (ks : List Int) : orderD (ks.map fun k => (k, [])) = rowsD (bare ks) := by
  unfold orderD rowsD bare
  rw [List.map_map, List.map_map]
  rfl
theorem rows_eqv_ring (o : List Step) (M : Mem) : eqD M (orderD o) (.str "Ring") = some false := by
  show (if (orderD o).good && (D.str "Ring").good then some ((orderD o).eqv (.str "Ring")) else none) = _
  rw [good_order, show (D.str "Ring").good = true by decide +kernel]
  rfl
end MP

/-! Mp6a: how orders go with their rows (k16). -/
namespace MP
/-! ### equal to itself -/
mutual
theorem eqv_refl : ∀ d : D, d.flat = true → d.eqv d = true
  | .non, _ => rfl
  | .bl b, _ => by simp [D.eqv]
  | .int _, _ => by simp [D.eqv]
  | .str _, _ => by simp [D.eqv]
  | .tup xs, h => by simp only [D.eqv]; exact eqvL_refl xs (by simpa [D.flat] using h)
  | .lst xs, h => by simp only [D.eqv]; exact eqvL_refl xs (by simpa [D.flat] using h)
  | .ref _, h => by simp [D.flat] at h
theorem eqvL_refl : ∀ ds : List D, D.flatL ds = true → D.eqvL ds ds = true
  | [], _ => rfl
  | d :: ds, h => by
    simp only [D.flatL, Bool.and_eq_true] at h
    simp only [D.eqvL, eqv_refl d h.1, eqvL_refl ds h.2, Bool.and_self]
end
/-! ### the same order -/
theorem pick_congr {L L' : List Rw} (hk : keys L = keys L') (hw : ∀ k ∈ keys L, ∀ o ∈ keys L, ∀ s, waitOn (getR L k) s o = waitOn (getR L' k) s o) : (∀ k ∈ keys L, ∀ s, waitsV L k s = waitsV L' k s) ∧ pickK L = pickK L' := by
  have h1 : ∀ k ∈ keys L, ∀ s, waitsV L k s = waitsV L' k s := fun k hk1 s => by
    unfold waitsV
    rw [← hk]
    exact List.filter_congr fun o ho => hw k hk1 o (mem_sort.mp ho) s
  refine ⟨h1, ?_⟩
  have h2 : ∀ s, freeV L s = freeV L' s := fun s => by
    unfold freeV
    rw [← hk]
    exact List.filter_congr fun k hk1 => by rw [h1 k (mem_sort.mp hk1) s]
  unfold pickK
  rw [h2, h2]
theorem order_congr : ∀ (n : Nat) (L L' : List Rw), keys L = keys L' → (∀ k ∈ keys L, ∀ o ∈ keys L, ∀ s, waitOn (getR L k) s o = waitOn (getR L' k) s o) → orderN n L = orderN n L'
  | 0, L, L', hk, _ => by
    have : (L = []) = (L' = []) := by
      have h1 : L = [] ↔ keys L = [] := by simp [keys]
      have h2 : L' = [] ↔ keys L' = [] := by simp [keys]
      rw [h1, h2, hk]
    simp only [orderN, this]
  | n + 1, L, L', hk, hw => by
    have : (L = []) = (L' = []) := by
      have h1 : L = [] ↔ keys L = [] := by simp [keys]
      have h2 : L' = [] ↔ keys L' = [] := by simp [keys]
      rw [h1, h2, hk]
    obtain ⟨h1, h2⟩ := pick_congr hk hw
    simp only [orderN, this, h2]
    split
    · rfl
    · cases hp : pickK L' with
      | none => rfl
      | some q =>
        have hq : q ∈ keys L := pick_mem (h2.trans hp)
        have ih := order_congr n (rest L q) (rest L' q) (by rw [keys_rest, keys_rest, hk]) fun k hk1 o ho s => by
          rw [keys_rest] at hk1 ho
          have a1 := List.mem_filter.mp hk1
          have a2 := List.mem_filter.mp ho
          have a3 : k ≠ q := by simpa using a1.2
          rw [getR_rest a3, getR_rest a3]
          exact hw k a1.1 o a2.1 s
        simp only [ih, h1 q hq]
/-! ### twice -/
theorem ins_map (f : Int → Int) (hf : ∀ a b, f a ≤ f b ↔ a ≤ b) (x : Int) : ∀ l : List Int, insI (f x) (l.map f) = (insI x l).map f
  | [] => rfl
  | y :: l => by
    simp only [List.map_cons, insI, hf]
    split
    · rfl
    · rw [List.map_cons, ins_map f hf x l]
theorem sort_map (f : Int → Int) (hf : ∀ a b, f a ≤ f b ↔ a ≤ b) : ∀ l : List Int, sortI (l.map f) = (sortI l).map f
  | [] => rfl
  | x :: l => by simp only [List.map_cons, sortI, sort_map f hf l, ins_map f hf]
def twT (t : Tie) : Tie := (2 * t.1, t.2)
def twR (r : Rw) : Rw := (2 * r.1, r.2.map twT)
def twS (s : Step) : Step := (2 * s.1, s.2.map fun x => 2 * x)
theorem tw_le (a b : Int) : 2 * a ≤ 2 * b ↔ a ≤ b := by omega
theorem keys_tw (L : List Rw) : keys (L.map twR) = (keys L).map fun x => 2 * x := by
  unfold keys
  rw [List.map_map, List.map_map]
  rfl
theorem getR_tw (L : List Rw) (k : Int) : getR (L.map twR) (2 * k) = (getR L k).map twT := by
  unfold getR
  induction L with
  | nil => rfl
  | cons r L ih =>
    rw [List.map_cons, List.find?_cons, List.find?_cons]
    by_cases h : r.1 = k
    · simp [twR, h]
    · have h2 : ¬ (2 * r.1 = 2 * k) := by omega
      simp only [twR, h, h2, decide_false]
      exact ih
theorem contains_tw (l : List Tie) (o : Int) (b : Bool) : (l.map twT).contains (2 * o, b) = l.contains (o, b) := by
  rw [Bool.eq_iff_iff, List.contains_iff_mem, List.contains_iff_mem]
  constructor
  · intro h
    obtain ⟨⟨p, c⟩, h1, h2⟩ := List.mem_map.mp h
    injection h2 with h3 h4
    have h3 : 2 * p = 2 * o := h3
    have h4 : c = b := h4
    have : p = o := by omega
    rw [← this, ← h4]
    exact h1
  · intro h
    exact List.mem_map.mpr ⟨(o, b), h, rfl⟩
theorem waitOn_tw (l : List Tie) (s : Bool) (o : Int) : waitOn (l.map twT) s (2 * o) = waitOn l s o := by
  unfold waitOn
  rw [contains_tw, contains_tw]
theorem waits_tw (L : List Rw) (k : Int) (s : Bool) : waitsV (L.map twR) (2 * k) s = (waitsV L k s).map fun x => 2 * x := by
  unfold waitsV
  rw [keys_tw, sort_map _ tw_le, getR_tw, List.filter_map]
  congr 1
  exact List.filter_congr fun o _ => waitOn_tw _ _ _
theorem free_tw (L : List Rw) (s : Bool) : freeV (L.map twR) s = (freeV L s).map fun x => 2 * x := by
  unfold freeV
  rw [keys_tw, sort_map _ tw_le, List.filter_map]
  congr 1
  refine List.filter_congr fun o _ => ?_
  show (waitsV (L.map twR) (2 * o) s).isEmpty = _
  rw [waits_tw]
  cases waitsV L o s <;> rfl
theorem pick_tw (L : List Rw) : pickK (L.map twR) = (pickK L).map fun x => 2 * x := by
  unfold pickK
  rw [free_tw, free_tw, ← List.map_append, List.head?_map]
theorem rest_tw (L : List Rw) (k : Int) : rest (L.map twR) (2 * k) = (rest L k).map twR := by
  unfold rest
  rw [List.filter_map]
  congr 1
  refine List.filter_congr fun r _ => ?_
  show decide (2 * r.1 ≠ 2 * k) = decide (r.1 ≠ k)
  by_cases h : r.1 = k
  · simp [h]
  · have : ¬ (2 * r.1 = 2 * k) := by omega
    simp [h, this]
theorem order_tw : ∀ (n : Nat) (L : List Rw), orderN n (L.map twR) = (orderN n L).map fun o => o.map twS
  | 0, L => by
    cases L <;> simp [orderN]
  | n + 1, L => by
    cases L with
    | nil => simp [orderN]
    | cons r L' =>
      generalize hL : r :: L' = L
      have h1 : L ≠ [] := by rw [← hL]; simp
      have h2 : L.map twR ≠ [] := by rw [← hL]; simp
      simp only [orderN, h1, h2, if_false, pick_tw]
      cases hp : pickK L with
      | none => rfl
      | some q =>
        show (orderN n (rest (L.map twR) (2 * q))).map ((2 * q, waitsV (L.map twR) (2 * q) false) :: ·) = ((orderN n (rest L q)).map ((q, waitsV L q false) :: ·)).map fun o => o.map twS
        rw [rest_tw, order_tw n (rest L q), waits_tw, Option.map_map, Option.map_map]
        rfl
/-! ### the rest -/
theorem order_rest {L : List Rw} {k : Int} {ws : List Int} {o : List Step} (hnd : (keys L).Nodup) (h : orderV L = some ((k, ws) :: o)) : orderV (rest L k) = some o := by
  unfold orderV at h ⊢
  cases hl : L.length with
  | zero =>
    have : L = [] := List.eq_nil_of_length_eq_zero hl
    subst this
    simp [orderN] at h
  | succ n =>
    rw [hl] at h
    have hne : L ≠ [] := by intro e; rw [e] at hl; cases hl
    simp only [orderN, hne, if_false] at h
    cases hp : pickK L with
    | none => rw [hp] at h; cases h
    | some q =>
      rw [hp] at h
      obtain ⟨o', h1, h2⟩ := Option.map_eq_some_iff.mp h
      injection h2 with h3 h4
      injection h3 with h3 h5
      subst h3 h4
      have := length_rest hnd (pick_mem hp)
      rw [show (rest L q).length = n by omega]
      exact h1
/-! ### the least that is free -/
def leastN : Nat → List Rw → Option (List Step)
  | 0, L => if L = [] then some [] else none
  | n + 1, L => if L = [] then some [] else match (freeV L false).head? with
    | none => none
    | some k => (leastN n (rest L k)).map ((k, []) :: ·)
theorem least_order : ∀ (n : Nat) (L : List Rw) (o : List Step), leastN n L = some o → orderN n L = some o
  | 0, L, o, h => h
  | n + 1, L, o, h => by
    unfold leastN at h
    unfold orderN
    by_cases he : L = []
    · rw [if_pos he] at h ⊢; exact h
    · rw [if_neg he] at h ⊢
      cases hf : freeV L false with
      | nil => rw [hf] at h; cases h
      | cons k l =>
        rw [hf] at h
        obtain ⟨o', h1, rfl⟩ := Option.map_eq_some_iff.mp h
        have hp : pickK L = some k := by unfold pickK; rw [hf]; rfl
        have hw : waitsV L k false = [] := by
          have : k ∈ freeV L false := by rw [hf]; exact List.mem_cons_self ..
          exact List.isEmpty_iff.mp (List.mem_filter.mp this).2
        rw [hp]
        show (orderN n (rest L k)).map ((k, waitsV L k false) :: ·) = _
        rw [least_order n (rest L k) o' h1, hw]
        rfl
/-! ### no needed ties -/
theorem getR_mem {L : List Rw} {k : Int} {p : Tie} (h : p ∈ getR L k) : ∃ r ∈ L, r.1 = k ∧ p ∈ r.2 := by
  unfold getR at h
  cases q : L.find? (fun r => decide (r.1 = k)) with
  | none => rw [q] at h; cases h
  | some r =>
    rw [q] at h
    exact ⟨r, List.mem_of_find?_eq_some q, by simpa using List.find?_some q, h⟩
theorem order_free : ∀ (n : Nat) (L : List Rw), (keys L).Nodup → L.length ≤ n → (∀ r ∈ L, ∀ p ∈ r.2, p.2 = false) → ∃ o, orderN n L = some o
  | 0, L, _, hl, _ => by
    have : L = [] := List.eq_nil_of_length_eq_zero (by omega)
    subst this
    exact ⟨[], rfl⟩
  | n + 1, L, hnd, hl, hf => by
    unfold orderN
    by_cases he : L = []
    · rw [if_pos he]; exact ⟨[], rfl⟩
    · rw [if_neg he]
      have hfr : freeV L true = sortI (keys L) := by
        unfold freeV
        refine List.filter_eq_self.mpr fun k _ => ?_
        rw [empty_iff]
        intro o ho
        have h1 := waitOn_true.mp (waits_mem.mp ho).2
        obtain ⟨r, hr, _, hp⟩ := getR_mem h1
        have := hf r hr _ hp
        cases this
      obtain ⟨q, hq⟩ : ∃ q, pickK L = some q := by
        unfold pickK
        rw [hfr]
        cases h1 : freeV L false with
        | cons a l => exact ⟨a, rfl⟩
        | nil =>
          cases h2 : sortI (keys L) with
          | cons a l => exact ⟨a, rfl⟩
          | nil =>
            have : (sortI (keys L)).length = L.length := by rw [(sortI_perm _).length_eq]; simp [keys]
            rw [h2] at this
            exact absurd (List.eq_nil_of_length_eq_zero this.symm) he
      rw [hq]
      have hlr := length_rest hnd (pick_mem hq)
      obtain ⟨o, ho⟩ := order_free n (rest L q) (nodup_rest hnd q) (by omega) fun r hr => hf r (List.mem_filter.mp hr).1
      exact ⟨_, by show (orderN n (rest L q)).map _ = _; rw [ho]; rfl⟩
/-! ### a ring of needed ties -/
theorem order_ring : ∀ (n : Nat) (L : List Rw), 50 ∈ keys L → 51 ∈ keys L → 52 ∈ keys L → (51, true) ∈ getR L 50 → (52, true) ∈ getR L 51 → (50, true) ∈ getR L 52 → orderN n L = none
  | 0, L, h0, _, _, _, _, _ => by
    unfold orderN
    rw [if_neg]
    intro e
    rw [e] at h0
    cases h0
  | n + 1, L, h0, h1, h2, t0, t1, t2 => by
    unfold orderN
    rw [if_neg (by intro e; rw [e] at h0; cases h0)]
    cases hp : pickK L with
    | none => rfl
    | some q =>
      have hs := pick_strict hp
      have key : ∀ a b : Int, (b, true) ∈ getR L a → b ∈ keys L → q ≠ a := fun a b hb hk e => by
        have : b ∈ waitsV L a true := waits_mem.mpr ⟨hk, waitOn_true.mpr hb⟩
        rw [← e, hs] at this
        cases this
      have n0 := key 50 51 t0 h1
      have n1 := key 51 52 t1 h2
      have n2 := key 52 50 t2 h0
      have km : ∀ a : Int, q ≠ a → a ∈ keys L → a ∈ keys (rest L q) := fun a hn ha => by
        rw [keys_rest]
        exact List.mem_filter.mpr ⟨ha, by simpa using fun e => hn e.symm⟩
      show (orderN n (rest L q)).map _ = none
      rw [order_ring n (rest L q) (km _ n0 h0) (km _ n1 h1) (km _ n2 h2) (by rw [getR_rest (Ne.symm n0)]; exact t0) (by rw [getR_rest (Ne.symm n1)]; exact t1) (by rw [getR_rest (Ne.symm n2)]; exact t2)]
      rfl
/-! ### a ring that is not needed -/
def brk : List Rw := [(50, [(51, true)]), (51, [(52, true)]), (52, [(50, false)])]
theorem ins_last {x : Int} : ∀ {l m : List Int}, (∀ y ∈ m, x ≤ y) → (∀ y ∈ m, True) → insI x (l ++ m) = insI x l ++ m
  | [], [], _, _ => rfl
  | [], y :: m, h, _ => by simp [insI, h y (List.mem_cons_self ..)]
  | a :: l, m, h, _ => by
    simp only [List.cons_append, insI]
    split
    · rfl
    · rw [ins_last h fun _ _ => trivial]; rfl
theorem sort_brk : ∀ {l : List Int}, (∀ x ∈ l, x < 50) → sortI (l ++ [50, 51, 52]) = sortI l ++ [50, 51, 52]
  | [], _ => by decide
  | x :: l, h => by
    have h1 := h x (List.mem_cons_self ..)
    simp only [List.cons_append, sortI, sort_brk fun y hy => h y (List.mem_cons_of_mem _ hy)]
    refine ins_last (fun y hy => ?_) fun _ _ => trivial
    have : y = 50 ∨ y = 51 ∨ y = 52 := by simpa using hy
    omega
theorem keys_app (A B : List Rw) : keys (A ++ B) = keys A ++ keys B := by simp [keys]
theorem getR_app_l {A B : List Rw} {k : Int} (h : k ∈ keys A) : getR (A ++ B) k = getR A k := by
  unfold getR
  rw [List.find?_append]
  cases q : A.find? (fun r => decide (r.1 = k)) with
  | some r => rfl
  | none =>
    obtain ⟨r, hr, e⟩ := List.mem_map.mp h
    have := List.find?_eq_none.mp q r hr
    simp [e] at this
theorem getR_app_r {A B : List Rw} {k : Int} (h : k ∉ keys A) : getR (A ++ B) k = getR B k := by
  unfold getR
  rw [List.find?_append]
  cases q : A.find? (fun r => decide (r.1 = k)) with
  | none => rfl
  | some r =>
    have h1 := List.find?_some q
    exact absurd (List.mem_map.mpr ⟨r, List.mem_of_find?_eq_some q, by simpa using h1⟩) h
theorem order_step {n : Nat} {L : List Rw} {q : Int} {o : List Step} (h : L ≠ []) (hp : pickK L = some q) (ho : orderN n (rest L q) = some o) : orderN (n + 1) L = some ((q, waitsV L q false) :: o) := by
  unfold orderN
  rw [if_neg h, hp]
  show (orderN n (rest L q)).map _ = _
  rw [ho]
  rfl
theorem order_brk : ∀ (n : Nat) (L : List Rw) (o : List Step), (∀ k ∈ keys L, k < 50) → (∀ r ∈ L, ∀ p ∈ r.2, p.1 < 50) → orderN n L = some o → ∃ o', orderN (n + 3) (L ++ brk) = some o'
  | n, [], o, _, _, _ => by
    have h3 : ∀ m, ∃ o', orderN (m + 3) brk = some o' := fun m => by
      have e1 : pickK brk = some 52 := by decide
      have e2 : rest brk 52 = [(50, [(51, true)]), (51, [(52, true)])] := by decide
      have e3 : pickK [(50, [(51, true)]), (51, [(52, true)])] = some 51 := by decide
      have e4 : rest [(50, [(51, true)]), (51, [(52, true)])] 51 = [(50, [(51, true)])] := by decide
      have e5 : pickK [(50, [(51, true)])] = some 50 := by decide
      have e6 : rest [(50, [(51, true)])] 50 = [] := by decide
      have e7 : orderN m [] = some [] := by cases m <;> rfl
      have f3 := order_step (n := m) (by simp) e5 (by rw [e6]; exact e7)
      have f2 := order_step (n := m + 1) (by simp) e3 (by rw [e4]; exact f3)
      exact ⟨_, order_step (n := m + 2) (by simp [brk]) e1 (by rw [e2]; exact f2)⟩
    exact h3 n
  | 0, r :: L, o, _, _, h => by simp [orderN] at h
  | n + 1, r :: L', o, hk, ht, h => by
    generalize hL : r :: L' = L at *
    have hne : L ≠ [] := by rw [← hL]; simp
    unfold orderN at h
    rw [if_neg hne] at h
    have hkb : keys (L ++ brk) = keys L ++ [50, 51, 52] := by rw [keys_app]; rfl
    have hs : sortI (keys (L ++ brk)) = sortI (keys L) ++ [50, 51, 52] := by rw [hkb]; exact sort_brk hk
    have hout : ∀ a : Int, 50 ≤ a → a ∉ keys L := fun a ha z => by have := hk a z; omega
    have hw : ∀ k ∈ keys L, ∀ s, waitsV (L ++ brk) k s = waitsV L k s := fun k hk1 s => by
      unfold waitsV
      rw [hs, getR_app_l hk1, List.filter_append]
      have : [50, 51, 52].filter (waitOn (getR L k) s) = [] := by
        refine List.filter_eq_nil_iff.mpr fun x hx hq => ?_
        have h1 : waitOn (getR L k) false x = true := by
          cases s with
          | false => exact hq
          | true => exact waitOn_false.mpr ⟨true, waitOn_true.mp hq⟩
        obtain ⟨b, hb⟩ := waitOn_false.mp h1
        obtain ⟨r, hr, _, hp⟩ := getR_mem hb
        have := ht r hr _ hp
        have h2 : x = 50 ∨ x = 51 ∨ x = 52 := by simpa using hx
        have : x < 50 := this
        omega
      rw [this, List.append_nil]
    have g50 : getR (L ++ brk) 50 = [(51, true)] := by rw [getR_app_r (hout 50 (by decide))]; rfl
    have g51 : getR (L ++ brk) 51 = [(52, true)] := by rw [getR_app_r (hout 51 (by decide))]; rfl
    have g52 : getR (L ++ brk) 52 = [(50, false)] := by rw [getR_app_r (hout 52 (by decide))]; rfl
    have m50 : (50 : Int) ∈ keys (L ++ brk) := by rw [hkb]; simp
    have m51 : (51 : Int) ∈ keys (L ++ brk) := by rw [hkb]; simp
    have m52 : (52 : Int) ∈ keys (L ++ brk) := by rw [hkb]; simp
    have ne : ∀ (a b : Int) (s : Bool), b ∈ waitsV (L ++ brk) a s → (waitsV (L ++ brk) a s).isEmpty = false := fun a b s hb => by
      cases hq : waitsV (L ++ brk) a s with
      | nil => rw [hq] at hb; cases hb
      | cons _ _ => rfl
    have fr1 : ∀ s, freeV (L ++ brk) s = freeV L s ++ [50, 51, 52].filter fun k => (waitsV (L ++ brk) k s).isEmpty := fun s => by
      unfold freeV
      rw [hs, List.filter_append]
      congr 1
      exact List.filter_congr fun k hk1 => by rw [hw k (mem_sort.mp hk1) s]
    have n50 : ∀ s, (waitsV (L ++ brk) 50 s).isEmpty = false := fun s => ne 50 51 s (waits_mem.mpr ⟨m51, by rw [g50]; cases s <;> decide⟩)
    have n51 : ∀ s, (waitsV (L ++ brk) 51 s).isEmpty = false := fun s => ne 51 52 s (waits_mem.mpr ⟨m52, by rw [g51]; cases s <;> decide⟩)
    have n52 : (waitsV (L ++ brk) 52 false).isEmpty = false := ne 52 50 false (waits_mem.mpr ⟨m50, by rw [g52]; decide⟩)
    have hf : freeV (L ++ brk) false = freeV L false := by
      rw [fr1]
      simp [n50, n51, n52]
    obtain ⟨x, hx⟩ : ∃ x, freeV (L ++ brk) true = freeV L true ++ x := ⟨_, fr1 true⟩
    cases hp : pickK L with
    | none => rw [hp] at h; cases h
    | some q =>
      rw [hp] at h
      obtain ⟨o', h1, _⟩ := Option.map_eq_some_iff.mp h
      have hq := pick_mem hp
      have hpb : pickK (L ++ brk) = some q := by
        unfold pickK at hp ⊢
        rw [hf, hx, ← List.append_assoc, List.head?_append, hp]
        rfl
      have hrb : rest (L ++ brk) q = rest L q ++ brk := by
        unfold rest
        rw [List.filter_append]
        congr 1
        have := hk q hq
        refine List.filter_eq_self.mpr fun r hr => ?_
        have h2 : r.1 = 50 ∨ r.1 = 51 ∨ r.1 = 52 := by
          have hr : r = (50, [(51, true)]) ∨ r = (51, [(52, true)]) ∨ r = (52, [(50, false)]) := by simpa [brk] using hr
          rcases hr with rfl | rfl | rfl
          · exact .inl rfl
          · exact .inr (.inl rfl)
          · exact .inr (.inr rfl)
        have : r.1 ≠ q := by omega
        simpa using this
      obtain ⟨o2, h2⟩ := order_brk n (rest L q) o' (fun k hk1 => hk k (by rw [keys_rest] at hk1; exact (List.mem_filter.mp hk1).1)) (fun r hr => ht r (List.mem_filter.mp hr).1) h1
      refine ⟨(q, waitsV (L ++ brk) q false) :: o2, ?_⟩
      show (if L ++ brk = [] then some [] else match pickK (L ++ brk) with | none => none | some k => (orderN (n + 3) (rest (L ++ brk) k)).map ((k, waitsV (L ++ brk) k false) :: ·)) = _
      rw [if_neg (by simp [brk]), hpb]
      show (orderN (n + 3) (rest (L ++ brk) q)).map _ = _
      rw [hrb, h2]
      rfl
end MP


/-! P03a: k03's rows are drawn. -/
namespace MP
namespace P03
def Fl (L : Mem) : Prop := ∀ k, L.all (MO.under k) = true
abbrev Sc (ns : List Int) : D := .lst (ns.map D.int)
/-- what a draw, a pick gives -/
def DrawS (cf : CF) (f : Nat) : Prop := ∀ (ns : List Int) (t : Nat) (many : Int) (L : Mem), t < 1000000 → 0 < many → Fl L → cf f [Sc ns, .ref 0, .int many] (.lst (zs t) :: L) = .ok (.int (drawV ns t many)) (.lst (zs (t + 1)) :: L)
def PickS (cf : CF) (f : Nat) : Prop := ∀ (ns : List Int) (t : Nat) (xs : List Int) (L : Mem), t < 1000000 → xs ≠ [] → Fl L → ∃ o ∈ xs, cf f [Sc ns, .ref 0, .lst (xs.map D.int)] (.lst (zs t) :: L) = .ok (.int o) (.lst (zs (t + 1)) :: L)
theorem draw_s {P : Prog} {n dI : Nat} (hf : P.funs[dI]? = some ⟨3, 7, false, drawB⟩) : DrawS (callF P (n + 1)) dI := fun ns t many L ht hm hL => draw_ok hf ns t ht hm (hL _)
theorem pick_s {P : Prog} {n dI pI : Nat} (hd : P.funs[dI]? = some ⟨3, 7, false, drawB⟩) (hp : P.funs[pI]? = some ⟨3, 3, false, pickB dI⟩) : PickS (callF P (n + 2)) pI := fun ns t xs L ht hx hL => by
  have h := pick_ok (n := n) hd hp ns t ht (xs := xs.map D.int) (by simpa using hx) (flatL_map_int xs) (hL _) (.inl rfl)
  obtain ⟨o, ho, e⟩ := List.mem_map.mp (pickV_mem (ns := ns) (t := t) (xs := xs.map D.int) (by simpa using hx))
  exact ⟨o, ho, by rw [e]; exact h⟩
section
variable {gl : Nat → Option D} {cf : CF} {sb : Nat → Nat → Option Bool} (Hd : DrawS cf 3) (Hp : PickS cf 4)
include Hd Hp
def tieB : S := (.seq (.ite (.cmp .Eq (.call 3 (.cons (.var 0) (.cons (.var 1) (.cons (.var 4) .nil)))) (.cst (.int 0)))
          (.seq (.asg (.name 13) (.call 4 (.cons (.var 0) (.cons (.var 1) (.cons (.bin (.add false) (.var 3) (.lst false (.cons (.cst (.int 1)) (.cons (.cst (.int 99)) .nil)))) .nil)))))
          (.seq (.asg (.name 9) (.bin (.add false) (.var 9) (.tup (.cons (.tup (.cons (.var 13) (.cons (.cmp .Eq (.call 3 (.cons (.var 0) (.cons (.var 1) (.cons (.cst (.int 3)) .nil)))) (.cst (.int 0))) .nil))) .nil))))
          .done))
          .done)
        .done)
theorem tie_turn (ns : List Int) (t : Nat) (ht : t < 900000) {th : Int} (hth : 0 < th) {nums : List Int} (hn : nums.length ≤ 1000) {ties : List Tie} (hties : ties.length ≤ 1000) {L : Mem} (hL : Fl L) {a2 a5 a6 a7 a8 a10 a11 a12 a13 a14 a15 a16 : Option D} :
    ∃ ties' t' b13, exec gl cf sb tieB [some (Sc ns), some (.ref 0), a2, some (.lst (nums.map D.int)), some (.int th), a5, a6, a7, a8, some (tiesD ties), a10, a11, a12, a13, a14, a15, a16] (.lst (zs t) :: L) =
      .nx [some (Sc ns), some (.ref 0), a2, some (.lst (nums.map D.int)), some (.int th), a5, a6, a7, a8, some (tiesD ties'), a10, a11, a12, b13, a14, a15, a16] (.lst (zs t') :: L) ∧ ties'.length ≤ ties.length + 1 ∧ t ≤ t' ∧ t' ≤ t + 3 := by
  have test : eval gl cf (.cmp .Eq (.call 3 (.cons (.var 0) (.cons (.var 1) (.cons (.var 4) .nil)))) (.cst (.int 0))) [some (Sc ns), some (.ref 0), a2, some (.lst (nums.map D.int)), some (.int th), a5, a6, a7, a8, some (tiesD ties), a10, a11, a12, a13, a14, a15, a16] (.lst (zs t) :: L) = .ok (.bl (decide (drawV ns t th = 0))) (.lst (zs (t + 1)) :: L) := by
    show ((cf 3 [Sc ns, .ref 0, .int th] (MO.lst (zs t) :: L)).bind fun x M => (R.ok (D.int 0) M).bind fun y M => R.ofB (eqD M x y) M) = _
    rw [Hd ns t th L (by omega) hth hL]
    rfl
  by_cases h0 : drawV ns t th = 0
  · rw [decide_eq_true h0] at test
    obtain ⟨o, ho, hp⟩ := Hp ns (t + 1) (nums ++ [1, 99]) L (by omega) (by simp) hL
    refine ⟨ties ++ [(o, decide (drawV ns (t + 2) 3 = 0))], t + 3, some (.int o), ?_, by simp, by omega, Nat.le_refl _⟩
    refine (exec_seq ((ex_ifT test rfl).trans ?_)).trans rfl
    have e1 : eval gl cf (.call 4 (.cons (.var 0) (.cons (.var 1) (.cons (.bin (.add false) (.var 3) (.lst false (.cons (.cst (.int 1)) (.cons (.cst (.int 99)) .nil)))) .nil)))) [some (Sc ns), some (.ref 0), a2, some (.lst (nums.map D.int)), some (.int th), a5, a6, a7, a8, some (tiesD ties), a10, a11, a12, a13, a14, a15, a16] (.lst (zs (t + 1)) :: L) = .ok (.int o) (.lst (zs (t + 2)) :: L) := by
      refine (ev_call (ds := [Sc ns, .ref 0, .lst ((nums ++ [1, 99]).map D.int)]) (M1 := .lst (zs (t + 1)) :: L) (ev_cons rfl (ev_cons rfl (ev_cons ((ev_bin (x := .lst (nums.map D.int)) (y := .lst [.int 1, .int 99]) rfl rfl).trans ?_) ev_nil)))).trans hp
      show (if (nums.map D.int).length + 2 ≤ big then newL false (nums.map D.int ++ [D.int 1, D.int 99]) (MO.lst (zs (t + 1)) :: L) else .stuck) = _
      rw [if_pos (by rw [List.length_map]; unfold big; omega)]
      simp [newL]
    refine (exec_seq (ex_asg e1 rfl)).trans ((exec_seq (ex_asg ?_ rfl)).trans rfl)
    have e2 : eval gl cf (.cmp .Eq (.call 3 (.cons (.var 0) (.cons (.var 1) (.cons (.cst (.int 3)) .nil)))) (.cst (.int 0))) [some (Sc ns), some (.ref 0), a2, some (.lst (nums.map D.int)), some (.int th), a5, a6, a7, a8, some (tiesD ties), a10, a11, a12, some (.int o), a14, a15, a16] (.lst (zs (t + 2)) :: L) = .ok (.bl (decide (drawV ns (t + 2) 3 = 0))) (.lst (zs (t + 3)) :: L) := by
      show ((cf 3 [Sc ns, .ref 0, .int 3] (MO.lst (zs (t + 2)) :: L)).bind fun x M => (R.ok (D.int 0) M).bind fun y M => R.ofB (eqD M x y) M) = _
      rw [Hd ns (t + 2) 3 L (by omega) (by decide) hL]
      rfl
    refine (ev_bin (x := tiesD ties) (y := .tup [tieD (o, decide (drawV ns (t + 2) 3 = 0))]) rfl (ev_tup (ev_cons (ev_tup (ev_cons rfl (ev_cons e2 ev_nil)) (by show 2 ≤ big; decide)) ev_nil) (by show 1 ≤ big; decide))).trans ?_
    show (if (ties.map tieD).length + 1 ≤ big then R.ok (D.tup (ties.map tieD ++ [tieD (o, decide (drawV ns (t + 2) 3 = 0))])) (MO.lst (zs (t + 3)) :: L) else .stuck) = _
    rw [if_pos (by rw [List.length_map]; unfold big; omega)]
    unfold tiesD
    rw [List.map_append]
    rfl
  · rw [decide_eq_false h0] at test
    exact ⟨ties, t + 1, a13, (exec_seq (ex_ifF test rfl)).trans rfl, by omega, by omega, by omega⟩
theorem tie_for (ns : List Int) (t : Nat) (ht : t < 800000) {th : Int} (hth : 0 < th) {nums : List Int} (hn : nums.length ≤ 1000) {L : Mem} (hL : Fl L) {a2 a5 a6 a7 a8 a10 a11 a12 a13 a14 a15 a16 : Option D} :
    ∃ ties t' b10 b13, exec gl cf sb (.for (.name 10) .range (.cons (.call 3 (.cons (.var 0) (.cons (.var 1) (.cons (.cst (.int 4)) .nil)))) .nil) tieB) [some (Sc ns), some (.ref 0), a2, some (.lst (nums.map D.int)), some (.int th), a5, a6, a7, a8, some (tiesD []), a10, a11, a12, a13, a14, a15, a16] (.lst (zs t) :: L) =
      .nx [some (Sc ns), some (.ref 0), a2, some (.lst (nums.map D.int)), some (.int th), a5, a6, a7, a8, some (tiesD ties), b10, a11, a12, b13, a14, a15, a16] (.lst (zs t') :: L) ∧ ties.length ≤ 4 ∧ t ≤ t' ∧ t' ≤ t + 13 := by
  have h0 := drawV_lo (ns := ns) (t := t) (many := 4) (by decide)
  have h1 := drawV_hi (ns := ns) (t := t) (many := 4) (by decide)
  have hd := Hd ns t 4 L (by omega) (by decide) hL
  generalize drawV ns t 4 = c at h0 h1 hd
  have hit : items .range [.int c] (.lst (zs (t + 1)) :: L) = some (rng 0 c) := by
    simp only [items]
    rw [if_pos]
    unfold big
    omega
  rw [ex_for (ds := [.int c]) (M1 := .lst (zs (t + 1)) :: L) (ev_cons ((ev_call rfl).trans hd) ev_nil) hit]
  have hlen : (rng 0 c).length ≤ 4 := by simp [rng]; omega
  obtain ⟨ρ', M', e, ties, t', i, b10, b13, e1, e2, e3, e4, e5, e6⟩ := forL_ind (ds := [D.int c]) (M0 := MO.lst (zs (t + 1)) :: L) (g := forT gl cf sb (.name 10) tieB)
    (fun rst ρ M' => ∃ (ties : List Tie) (t' i : Nat) (b10 b13 : Option D), ρ = [some (Sc ns), some (.ref 0), a2, some (.lst (nums.map D.int)), some (.int th), a5, a6, a7, a8, some (tiesD ties), b10, a11, a12, b13, a14, a15, a16] ∧ M' = .lst (zs t') :: L ∧ rst.length + i = (rng 0 c).length ∧ ties.length ≤ i ∧ t + 1 ≤ t' ∧ t' ≤ t + 1 + 3 * i)
    (by
      rintro x rst ρ M' ⟨ties, t', i, b10, b13, rfl, rfl, e3, e4, e5, e6⟩
      refine ⟨rfl, ?_⟩
      simp only [List.length_cons] at e3
      obtain ⟨ties', t'', b13', h, h2, h3, h4⟩ := tie_turn (gl := gl) (sb := sb) Hd Hp ns t' (by omega) hth hn (ties := ties) (by omega) hL (a2 := a2) (a5 := a5) (a6 := a6) (a7 := a7) (a8 := a8) (a10 := some x) (a11 := a11) (a12 := a12) (a13 := b13) (a14 := a14) (a15 := a15) (a16 := a16)
      exact ⟨_, _, .inl ((forT_eq rfl).trans h), ties', t'', i + 1, _, _, rfl, rfl, by omega, by omega, by omega, by omega⟩)
    (by rintro ρ M' _; rfl) (rng 0 c) [some (Sc ns), some (.ref 0), a2, some (.lst (nums.map D.int)), some (.int th), a5, a6, a7, a8, some (tiesD []), a10, a11, a12, a13, a14, a15, a16] (.lst (zs (t + 1)) :: L) ⟨[], t + 1, 0, _, _, rfl, rfl, rfl, Nat.le_refl _, Nat.le_refl _, Nat.le_refl _⟩
  subst e1 e2
  simp only [List.length_nil] at e3
  exact ⟨ties, t', b10, b13, e, by omega, by omega, by omega⟩
def rowB : S := (.seq (.asg (.name 9) (.tup .nil))
      (.seq (.for (.name 10) .range (.cons (.call 3 (.cons (.var 0) (.cons (.var 1) (.cons (.cst (.int 4)) .nil)))) .nil) tieB)
      (.seq (.asg (.name 5) (.bin (.add false) (.var 5) (.tup (.cons (.tup (.cons (.var 6) (.cons (.var 9) .nil))) .nil))))
      .done)))
theorem row_for (ns : List Int) (t : Nat) (ht : t < 700000) {th : Int} (hth : 0 < th) {nums : List Int} (hn : nums.length ≤ 1000) {L : Mem} (hL : Fl L) {a2 a6 a7 a8 a9 a10 a11 a12 a13 a14 a15 a16 : Option D} :
    ∃ rows t' b6 b9 b10 b13, exec gl cf sb (.for (.name 6) .seq (.cons (.var 3) .nil) rowB) [some (Sc ns), some (.ref 0), a2, some (.lst (nums.map D.int)), some (.int th), some (rowsD []), a6, a7, a8, a9, a10, a11, a12, a13, a14, a15, a16] (.lst (zs t) :: L) =
      .nx [some (Sc ns), some (.ref 0), a2, some (.lst (nums.map D.int)), some (.int th), some (rowsD rows), b6, a7, a8, b9, b10, a11, a12, b13, a14, a15, a16] (.lst (zs t') :: L) ∧ keys rows = nums ∧ (∀ r ∈ rows, r.2.length ≤ 4) ∧ t ≤ t' ∧ t' ≤ t + 13 * nums.length := by
  rw [ex_for (ds := [.lst (nums.map D.int)]) (M1 := .lst (zs t) :: L) (xs := nums.map D.int) rfl rfl]
  obtain ⟨ρ', M', e, pre, post, rows, t', b6, b9, b10, b13, e1, e2, e3, e4, e5, e6, e7, e8⟩ := forL_ind (ds := [D.lst (nums.map D.int)]) (M0 := MO.lst (zs t) :: L) (g := forT gl cf sb (.name 6) rowB)
    (fun rst ρ M' => ∃ (pre post : List Int) (rows : List Rw) (t' : Nat) (b6 b9 b10 b13 : Option D), nums = pre ++ post ∧ rst = post.map D.int ∧ ρ = [some (Sc ns), some (.ref 0), a2, some (.lst (nums.map D.int)), some (.int th), some (rowsD rows), b6, a7, a8, b9, b10, a11, a12, b13, a14, a15, a16] ∧ M' = .lst (zs t') :: L ∧ keys rows = pre ∧ (∀ r ∈ rows, r.2.length ≤ 4) ∧ t ≤ t' ∧ t' ≤ t + 13 * pre.length)
    (by
      rintro x rst ρ M' ⟨pre, post, rows, t', b6, b9, b10, b13, e1, e2, rfl, rfl, e5, e6, e7, e8⟩
      refine ⟨rfl, ?_⟩
      cases post with
      | nil => cases e2
      | cons o post =>
        rw [List.map_cons] at e2
        injection e2 with e2 e9
        subst e2
        have hpl : pre.length < 1000 := by have := congrArg List.length e1; simp at this; omega
        obtain ⟨ties, t'', c10, c13, h, h2, h3, h4⟩ := tie_for (gl := gl) (sb := sb) Hd Hp ns t' (by omega) hth hn hL (a2 := a2) (a5 := some (rowsD rows)) (a6 := some (.int o)) (a7 := a7) (a8 := a8) (a10 := b10) (a11 := a11) (a12 := a12) (a13 := b13) (a14 := a14) (a15 := a15) (a16 := a16)
        refine ⟨[some (Sc ns), some (.ref 0), a2, some (.lst (nums.map D.int)), some (.int th), some (rowsD (rows ++ [(o, ties)])), some (.int o), a7, a8, some (tiesD ties), c10, a11, a12, c13, a14, a15, a16], .lst (zs t'') :: L, .inl ((forT_eq rfl).trans ?_), pre ++ [o], post, rows ++ [(o, ties)], t'', _, _, _, _, by simp [e1], e9, rfl, rfl, by rw [← e5]; simp [keys], ?_, by omega, by simp; omega⟩
        · refine (exec_seq (ρ' := [some (Sc ns), some (.ref 0), a2, some (.lst (nums.map D.int)), some (.int th), some (rowsD rows), some (.int o), a7, a8, some (tiesD []), b10, a11, a12, b13, a14, a15, a16]) (M' := .lst (zs t') :: L) rfl).trans ((exec_seq h).trans ((exec_seq (ex_asg ?_ rfl)).trans rfl))
          refine (ev_bin (x := rowsD rows) (y := .tup [rowD (o, ties)]) rfl rfl).trans ?_
          have hrl : rows.length = pre.length := by rw [← e5]; simp [keys]
          show (if (rows.map rowD).length + 1 ≤ big then R.ok (D.tup (rows.map rowD ++ [rowD (o, ties)])) (MO.lst (zs t'') :: L) else .stuck) = _
          rw [if_pos (by rw [List.length_map]; unfold big; omega)]
          unfold rowsD
          rw [List.map_append]
          rfl
        · intro r hr
          rcases List.mem_append.mp hr with hr | hr
          · exact e6 r hr
          · rw [List.mem_singleton.mp hr]; exact h2)
    (by rintro ρ M' _; rfl) (nums.map D.int) [some (Sc ns), some (.ref 0), a2, some (.lst (nums.map D.int)), some (.int th), some (rowsD []), a6, a7, a8, a9, a10, a11, a12, a13, a14, a15, a16] (.lst (zs t) :: L) ⟨[], nums, [], t, _, _, _, _, rfl, rfl, rfl, rfl, rfl, by simp, Nat.le_refl _, by omega⟩
  have : post = [] := by cases post with | nil => rfl | cons _ _ => cases e2
  subst this
  rw [List.append_nil] at e1
  subst e1 e3 e4
  exact ⟨rows, t', b6, b9, b10, b13, e, e5, e6, e7, e8⟩
/-- the numbers -/
theorem nums_ev (ns : List Int) (t : Nat) (ht : t < 900000) {L : Mem} (hL : Fl L) {a2 a3 a4 a5 a6 a7 a8 a9 a10 a11 a12 a13 a14 a15 a16 : Option D} :
    ∃ c : Nat, c < 8 ∧ eval gl cf (.comp false [12] (.name 12) .range (.cons (.call 3 (.cons (.var 0) (.cons (.var 1) (.cons (.cst (.int 8)) .nil)))) .nil) .nil (.bin (.mul false) (.var 12) (.cst (.int 2)))) [some (Sc ns), some (.ref 0), a2, a3, a4, a5, a6, a7, a8, a9, a10, a11, a12, a13, a14, a15, a16] (.lst (zs t) :: L) = .ok (.lst ((numsV 2 c).map D.int)) (.lst (zs (t + 1)) :: L) := by
  have h0 := drawV_lo (ns := ns) (t := t) (many := 8) (by decide)
  have h1 := drawV_hi (ns := ns) (t := t) (many := 8) (by decide)
  have hd := Hd ns t 8 L (by omega) (by decide) hL
  generalize drawV ns t 8 = c at h0 h1 hd
  have hit : items .range [.int c] (.lst (zs (t + 1)) :: L) = some (rng 0 c) := by
    simp only [items]
    rw [if_pos]
    unfold big
    omega
  refine ⟨c.toNat, by omega, (ev_comp (ys := (numsV 2 c.toNat).map D.int) (M2 := .lst (zs (t + 1)) :: L) (ev_cons ((ev_call rfl).trans hd) ev_nil) hit ?_).trans rfl⟩
  let h : D → Option D := fun x => match x with | .int i => some (.int (i * 2)) | _ => none
  have := compL_pure (ds := [D.int c]) (M0 := MO.lst (zs (t + 1)) :: L) (M := MO.lst (zs (t + 1)) :: L) (g := compT gl cf (.name 12) (wipe [some (Sc ns), some (.ref 0), a2, a3, a4, a5, a6, a7, a8, a9, a10, a11, a12, a13, a14, a15, a16] [12]) .nil (.bin (.mul false) (.var 12) (.cst (.int 2)))) (h := h) rfl (rng 0 c) [] fun x hx => by
    obtain ⟨i, hi, rfl⟩ := List.mem_map.mp hx
    refine compT_one rfl ?_
    refine (ev_bin (x := .int (0 + (i : Int))) (y := .int 2) rfl rfl).trans ?_
    have k : small64 2 = true := by decide
    simp only [op2, k, Bool.or_true, if_true]
  rw [this]
  congr 1
  unfold rng numsV
  rw [List.nil_append, List.filterMap_map, List.map_map]
  have e : ∀ l : List Nat, l.filterMap (h ∘ fun i : Nat => D.int (0 + (i : Int))) = l.map (D.int ∘ fun i : Nat => (i : Int) * 2) := fun l => by
    induction l with
    | nil => rfl
    | cons a l ih =>
      rw [List.filterMap_cons, List.map_cons, ih]
      show (D.int ((0 + (a : Int)) * 2)) :: _ = _
      rw [Int.zero_add]
      rfl
  rw [e]
  simp
end
end P03
end MP

/-! P03b: k03's law, turn by turn. -/
namespace MP
def toldB (pI xI : Nat) : S :=
  (.seq (.asg (.name 1) (.cst .non))
  (.seq (.try
    (.seq (.asg (.name 1) (.call pI (.cons (.var 0) .nil)))
    .done)
    (.hd xI (.seq (.asg (.name 1) (.cst (.str "Ring")))
    .done)
    .done))
  (.seq (.ret (.var 1))
  .done)))
theorem told_gen {gl : Nat → Option D} {cf : CF} {sb : Nat → Nat → Option Bool} {pI xI : Nat} (hx : sb xI xI = some true) {M : Mem} {a : D} {r : Option (List Step)} (ho : cf pI [a] M = match r with | some o => .ok (orderD o) M | none => .exc xI M) :
    exec gl cf sb (toldB pI xI) (start 2 [a]) M = .rt (ringD r) M := by
  refine (exec_seq (ρ' := [some a, some .non]) (M' := M) rfl).trans ?_
  refine (exec_seq (ρ' := [some a, some (ringD r)]) (M' := M) ?_).trans (exec_seq_rt rfl)
  have hb : exec gl cf sb (.seq (.asg (.name 1) (.call pI (.cons (.var 0) .nil))) .done) [some a, some .non] M = match r with | some o => .nx [some a, some (orderD o)] M | none => .ex xI [some a, some .non] M := by
    cases r with
    | some o => exact (exec_seq (ex_asg ((ev_call rfl).trans ho) rfl)).trans rfl
    | none =>
      refine exec_seq_ex ?_
      show ((cf pI [a] M).toF [some a, some .non] _) = _
      rw [ho]
      rfl
  simp only [exec] at hb ⊢
  rw [hb]
  cases r with
  | some o => rfl
  | none =>
    simp only [execH, hx]
    rfl
theorem told_ok {P : Prog} {n wI pI tI xI : Nat} (hw : P.funs[wI]? = some ⟨3, 5, false, waitsB⟩) (hp : P.funs[pI]? = some ⟨1, 6, false, putB wI xI⟩) (ht : P.funs[tI]? = some ⟨1, 2, false, toldB pI xI⟩) (hx : P.subAt xI xI = some true) {rows : List Rw} (hnd : (keys rows).Nodup) (hlen : rows.length ≤ 500) (M : Mem) :
    callF P (n + 3) tI [rowsD rows] M = .ok (ringD (orderV rows)) M := by
  rw [callF_eq ht rfl, told_gen hx (put_ok (n := n) hw hp hnd hlen M)]
  exact fin_same (flat_ring _)
namespace P03
theorem cut_from {α : Type} (xs : List α) (i : Nat) : cut xs (some (i : Int)) none = xs.drop i := by
  unfold cut
  rw [HT.sIx_nat, HT.sIx_none]
  by_cases h : i ≤ xs.length
  · rw [Nat.min_eq_left h]
    exact List.take_of_length_le (by simp)
  · rw [Nat.min_eq_right (by omega), List.drop_length, List.drop_of_length_le (by omega)]
    simp
def enumD (o : List Step) : List D := (o.map stepD).zipIdx.map fun p => D.tup [.int (p.2 : Nat), p.1]
theorem enum_drop {o : List Step} {i : Nat} {x : D} {r : List D} (h : (enumD o).drop i = x :: r) : ∃ s, o[i]? = some s ∧ x = .tup [.int (i : Nat), stepD s] ∧ r = (enumD o).drop (i + 1) := by
  have h1 : (enumD o)[i]? = some x := by
    have := congrArg (fun l => l[0]?) h
    simpa [List.getElem?_drop] using this
  have h2 : r = (enumD o).drop (i + 1) := by
    have := congrArg List.tail h
    rw [List.tail_drop] at this
    simpa using this.symm
  unfold enumD at h1
  rw [List.getElem?_map, List.getElem?_zipIdx, List.getElem?_map] at h1
  cases q : o[i]? with
  | none => rw [q] at h1; cases h1
  | some s =>
    rw [q] at h1
    refine ⟨s, rfl, ?_, h2⟩
    simpa using h1.symm
theorem fm_none (l : List D) : (l.filterMap fun _ => (none : Option D)) = [] := by
  induction l with
  | nil => rfl
  | cons a l ih => rw [List.filterMap_cons, ih]
def chkB : S := (.seq (.asg (.name 9) (.idx (.blt .dict (.cons (.var 5) .nil)) (.var 6)))
        (.seq (.ite (.comp false [13, 15] (.tup (.cons (.name 13) (.cons (.name 15) .nil))) .seq (.cons (.var 9) .nil) (.and (.var 15) (.cmp .In (.var 13) (.slc false (.var 11) (.var 12) .nil))) (.cst (.int 1)))
          (.seq (.ret (.cst (.bl false)))
          .done)
          .done)
        (.seq (.ite (.comp false [13] (.name 13) .seq (.cons (.var 14) .nil) (.or (.cmp .NotIn (.var 13) (.slc false (.var 11) (.var 12) .nil)) (.cmp .NotIn (.var 13) (.comp false [16] (.name 16) .seq (.cons (.var 9) .nil) .nil (.idx (.var 16) (.cst (.int 0)))))) (.var 13))
          (.seq (.ret (.cst (.bl false)))
          .done)
          .done)
        .done)))
section
variable {gl : Nat → Option D} {cf : CF} {sb : Nat → Nat → Option Bool}
theorem slc_ev (l : List Int) (i : Nat) {M : Mem} {a0 a1 a2 a3 a4 a5 a6 a7 a8 a9 a10 a13 a14 a15 a16 : Option D} : eval gl cf (.slc false (.var 11) (.var 12) .nil) [a0, a1, a2, a3, a4, a5, a6, a7, a8, a9, a10, some (.lst (l.map D.int)), some (.int (i : Nat)), a13, a14, a15, a16] M = .ok (.lst ((l.drop i).map D.int)) M := by
  show R.ok (D.lst (cut (l.map D.int) (some (i : Int)) none)) M = _
  rw [cut_from, List.map_drop]
theorem in_slc (l : List Int) (i : Nat) (x : Int) {M : Mem} {a0 a1 a2 a3 a4 a5 a6 a7 a8 a9 a10 a14 a15 a16 : Option D} : eval gl cf (.cmp .In (.var 13) (.slc false (.var 11) (.var 12) .nil)) [a0, a1, a2, a3, a4, a5, a6, a7, a8, a9, a10, some (.lst (l.map D.int)), some (.int (i : Nat)), some (.int x), a14, a15, a16] M = .ok (.bl (decide (x ∈ l.drop i))) M := by
  show ((eval gl cf (.slc false (.var 11) (.var 12) .nil) [a0, a1, a2, a3, a4, a5, a6, a7, a8, a9, a10, some (.lst (l.map D.int)), some (.int (i : Nat)), some (.int x), a14, a15, a16] M).bind fun y M => R.ofB (isIn M (.int x) y) M) = _
  rw [slc_ev, R.bind_ok, in_ints]
  rfl
theorem nin_slc (l : List Int) (i : Nat) (x : Int) {M : Mem} {a0 a1 a2 a3 a4 a5 a6 a7 a8 a9 a10 a14 a15 a16 : Option D} : eval gl cf (.cmp .NotIn (.var 13) (.slc false (.var 11) (.var 12) .nil)) [a0, a1, a2, a3, a4, a5, a6, a7, a8, a9, a10, some (.lst (l.map D.int)), some (.int (i : Nat)), some (.int x), a14, a15, a16] M = .ok (.bl (!decide (x ∈ l.drop i))) M := by
  show ((eval gl cf (.slc false (.var 11) (.var 12) .nil) [a0, a1, a2, a3, a4, a5, a6, a7, a8, a9, a10, some (.lst (l.map D.int)), some (.int (i : Nat)), some (.int x), a14, a15, a16] M).bind fun y M => R.ofB ((isIn M (.int x) y).map not) M) = _
  rw [slc_ev, R.bind_ok, in_ints]
  rfl
theorem firsts_ev (l : List Tie) {M : Mem} {a0 a1 a2 a3 a4 a5 a6 a7 a8 a10 a11 a12 a13 a14 a15 a16 : Option D} : eval gl cf (.comp false [16] (.name 16) .seq (.cons (.var 9) .nil) .nil (.idx (.var 16) (.cst (.int 0)))) [a0, a1, a2, a3, a4, a5, a6, a7, a8, some (tiesD l), a10, a11, a12, a13, a14, a15, a16] M = .ok (.lst ((l.map (·.1)).map D.int)) M := by
  let h : D → Option D := fun x => some (.int (tieOf x).1)
  refine (ev_comp (xs := l.map tieD) (ys := [] ++ (l.map tieD).filterMap h) (M2 := M) rfl rfl ?_).trans ?_
  · refine compL_pure (still_same _ _) _ _ fun y hy => ?_
    obtain ⟨p, hp, rfl⟩ := List.mem_map.mp hy
    refine compT_one rfl ((ev_idx rfl rfl).trans ?_)
    simp only [idx, tieD, atD, at0]
    rfl
  · rw [List.nil_append]
    have : ∀ l : List Tie, (l.map tieD).filterMap h = (l.map (·.1)).map D.int := fun l => by
      induction l with
      | nil => rfl
      | cons a l ih => simp only [List.map_cons, List.filterMap_cons, ih]; rfl
    rw [this]
    rfl
theorem chk_turn {rows : List Rw} (hnd : (keys rows).Nodup) {o : List Step} (ho : orderV rows = some o) {i : Nat} {k : Int} {ws : List Int} (hi : o[i]? = some (k, ws)) {M : Mem} {a0 a1 a2 a3 a4 a7 a8 a9 a10 a13 a15 a16 : Option D} :
    exec gl cf sb chkB [a0, a1, a2, a3, a4, some (rowsD rows), some (.int k), a7, a8, a9, a10, some (.lst ((ordK o).map D.int)), some (.int (i : Nat)), a13, some (intsD ws), a15, a16] M =
      .nx [a0, a1, a2, a3, a4, some (rowsD rows), some (.int k), a7, a8, some (tiesD (getR rows k)), a10, some (.lst ((ordK o).map D.int)), some (.int (i : Nat)), a13, some (intsD ws), a15, a16] (M ++ [.dK (kvs rows)]) := by
  obtain ⟨h1, h2, h3⟩ := order_at _ rows o hnd ho i k ws hi
  have hd : eval gl cf (.idx (.blt .dict (.cons (.var 5) .nil)) (.var 6)) [a0, a1, a2, a3, a4, some (rowsD rows), some (.int k), a7, a8, a9, a10, some (.lst ((ordK o).map D.int)), some (.int (i : Nat)), a13, some (intsD ws), a15, a16] M = .ok (tiesD (getR rows k)) (M ++ [.dK (kvs rows)]) :=
    (ev_idx ((ev_blt rfl).trans (dict_rows hnd M)) rfl).trans (idx_dict (get_end _ _) h3)
  refine (exec_seq (ex_asg hd rfl)).trans ?_
  refine (exec_seq (ρ' := [a0, a1, a2, a3, a4, some (rowsD rows), some (.int k), a7, a8, some (tiesD (getR rows k)), a10, some (.lst ((ordK o).map D.int)), some (.int (i : Nat)), a13, some (intsD ws), a15, a16]) (M' := M ++ [.dK (kvs rows)]) ?_).trans ?_
  · refine ex_ifF (x := .lst []) (M1 := M ++ [.dK (kvs rows)]) ?_ rfl
    refine (ev_comp (xs := (getR rows k).map tieD) (ys := [] ++ ((getR rows k).map tieD).filterMap fun _ => none) (M2 := M ++ [.dK (kvs rows)]) rfl rfl ?_).trans ?_
    · refine compL_pure (still_same _ _) _ _ fun y hy => ?_
      obtain ⟨⟨x, b⟩, hp, rfl⟩ := List.mem_map.mp hy
      cases b with
      | false => exact compT_no rfl rfl (ev_andF (x := .bl false) rfl rfl) rfl
      | true =>
        refine compT_no (y := .bl false) rfl rfl ((ev_andT (x := .bl true) rfl rfl).trans ((in_slc (ordK o) i x).trans ?_)) rfl
        rw [decide_eq_false fun z => h2 x z hp]
    · rw [fm_none]
      rfl
  · refine (exec_seq (ex_ifF (x := .lst []) (M1 := M ++ [.dK (kvs rows)]) ?_ rfl)).trans rfl
    refine (ev_comp (xs := ws.map D.int) (ys := [] ++ (ws.map D.int).filterMap fun _ => none) (M2 := M ++ [.dK (kvs rows)]) rfl rfl ?_).trans ?_
    · refine compL_pure (still_same _ _) _ _ fun y hy => ?_
      obtain ⟨x, hx, rfl⟩ := List.mem_map.mp hy
      obtain ⟨h4, b, h5⟩ := h1 x hx
      refine compT_no (y := .bl false) rfl rfl ((ev_orF (x := .bl false) ((nin_slc (ordK o) i x).trans (by rw [decide_eq_true h4]; rfl)) rfl).trans ?_) rfl
      show ((eval gl cf (.comp false [16] (.name 16) .seq (.cons (.var 9) .nil) .nil (.idx (.var 16) (.cst (.int 0)))) [a0, a1, a2, a3, a4, some (rowsD rows), some (.int k), a7, a8, some (tiesD (getR rows k)), a10, some (.lst ((ordK o).map D.int)), some (.int (i : Nat)), some (.int x), some (intsD ws), a15, a16] (M ++ [.dK (kvs rows)])).bind fun y M => R.ofB ((isIn M (.int x) y).map not) M) = _
      rw [firsts_ev, R.bind_ok, in_ints, decide_eq_true (List.mem_map.mpr ⟨(x, b), h5, rfl⟩)]
      rfl
    · rw [fm_none]
      rfl
theorem chk_for {rows : List Rw} (hnd : (keys rows).Nodup) {o : List Step} (ho : orderV rows = some o) {M : Mem} {a0 a1 a2 a3 a4 a6 a8 a9 a10 a12 a13 a14 a15 a16 : Option D} :
    ∃ j b6 b9 b12 b14, exec gl cf sb (.for (.tup (.cons (.name 12) (.cons (.tup (.cons (.name 6) (.cons (.name 14) .nil))) .nil))) .enum (.cons (.var 7) .nil) chkB) [a0, a1, a2, a3, a4, some (rowsD rows), a6, some (orderD o), a8, a9, a10, some (.lst ((ordK o).map D.int)), a12, a13, a14, a15, a16] M =
      .nx [a0, a1, a2, a3, a4, some (rowsD rows), b6, some (orderD o), a8, b9, a10, some (.lst ((ordK o).map D.int)), b12, a13, b14, a15, a16] (M ++ List.replicate j (.dK (kvs rows))) := by
  rw [ex_for (ds := [orderD o]) (M1 := M) (xs := enumD o) rfl rfl]
  obtain ⟨ρ', M', e, i, b6, b9, b12, b14, e1, e2, e3⟩ := forL_ind (ds := [orderD o]) (M0 := M) (g := forT gl cf sb (.tup (.cons (.name 12) (.cons (.tup (.cons (.name 6) (.cons (.name 14) .nil))) .nil))) chkB)
    (fun rst ρ M' => ∃ (i : Nat) (b6 b9 b12 b14 : Option D), rst = (enumD o).drop i ∧ ρ = [a0, a1, a2, a3, a4, some (rowsD rows), b6, some (orderD o), a8, b9, a10, some (.lst ((ordK o).map D.int)), b12, a13, b14, a15, a16] ∧ M' = M ++ List.replicate i (.dK (kvs rows)))
    (by
      rintro x rst ρ M' ⟨i, b6, b9, b12, b14, e1, rfl, rfl⟩
      refine ⟨rfl, ?_⟩
      obtain ⟨⟨k, ws⟩, h1, rfl, h3⟩ := enum_drop e1.symm
      refine ⟨_, _, .inl ((forT_eq rfl).trans (chk_turn hnd ho h1)), i + 1, _, _, _, _, h3, rfl, ?_⟩
      rw [List.replicate_succ', List.append_assoc])
    (by rintro ρ M' _; rfl) (enumD o) [a0, a1, a2, a3, a4, some (rowsD rows), a6, some (orderD o), a8, a9, a10, some (.lst ((ordK o).map D.int)), a12, a13, a14, a15, a16] M ⟨0, _, _, _, _, rfl, rfl, by simp⟩
  subst e2 e3
  exact ⟨i, b6, b9, b12, b14, e⟩
end
end P03
end MP

/-! P16a: k16's own defs: the order or None, the rows, the least that is free. -/
namespace MP
namespace P16
open P03
def noneD : Option (List Step) → D
  | some o => orderD o
  | none => .non
theorem flat_none (o : Option (List Step)) : (noneD o).flat = true := by
  cases o with
  | none => rfl
  | some o => exact flat_order o
def ordB : S := (.seq (.try
    (.seq (.ret (.call 0 (.cons (.var 0) .nil)))
    .done)
    (.hd 1 (.seq (.ret (.cst .non))
    .done)
    .done))
  .done)
theorem ord_gen {gl : Nat → Option D} {cf : CF} {sb : Nat → Nat → Option Bool} (hx : sb 1 1 = some true) {M : Mem} {a : D} {r : Option (List Step)} (ho : cf 0 [a] M = match r with | some o => .ok (orderD o) M | none => .exc 1 M) :
    exec gl cf sb ordB (start 1 [a]) M = .rt (noneD r) M := by
  refine exec_seq_rt ?_
  have hb : exec gl cf sb (.seq (.ret (.call 0 (.cons (.var 0) .nil))) .done) (start 1 [a]) M = match r with | some o => .rt (orderD o) M | none => .ex 1 (start 1 [a]) M := by
    cases r with
    | some o => exact exec_seq_rt (ex_ret ((ev_call rfl).trans ho))
    | none =>
      refine exec_seq_ex ?_
      show ((cf 0 [a] M).toF (start 1 [a]) _) = _
      rw [ho]
      rfl
  simp only [exec] at hb ⊢
  rw [hb]
  cases r with
  | some o => rfl
  | none =>
    simp only [execH, hx]
    rfl
theorem ord_ok {P : Prog} {n : Nat} (hw : P.funs[1]? = some ⟨3, 5, false, waitsB⟩) (hp : P.funs[0]? = some ⟨1, 6, false, putB 1 1⟩) (ht : P.funs[4]? = some ⟨1, 1, false, ordB⟩) (hx : P.subAt 1 1 = some true) {rows : List Rw} (hnd : (keys rows).Nodup) (hlen : rows.length ≤ 500) (M : Mem) :
    callF P (n + 3) 4 [rowsD rows] M = .ok (noneD (orderV rows)) M := by
  rw [callF_eq ht rfl, ord_gen hx (put_ok (n := n) hw hp hnd hlen M)]
  exact fin_same (flat_none _)
/-! ### the rows -/
def tieC : S := (.seq (.asg (.name 8) (.call 2 (.cons (.var 0) (.cons (.var 1) (.cons (.bin (.add false) (.var 2) (.cst (.int 2))) .nil)))))
      (.seq (.asg (.name 6) (.bin (.add false) (.var 6) (.tup (.cons (.tup (.cons (.var 8) (.cons (.and (.var 3) (.cmp .Eq (.call 2 (.cons (.var 0) (.cons (.var 1) (.cons (.cst (.int 3)) .nil)))) (.cst (.int 0)))) .nil))) .nil))))
      .done))
def rowC : S := (.seq (.asg (.name 6) (.tup .nil))
    (.seq (.for (.name 7) .range (.cons (.call 2 (.cons (.var 0) (.cons (.var 1) (.cons (.cst (.int 3)) .nil)))) .nil) tieC)
    (.seq (.asg (.name 4) (.bin (.add false) (.var 4) (.tup (.cons (.tup (.cons (.var 5) (.cons (.var 6) .nil))) .nil))))
    .done)))
def rowsB : S := (.seq (.asg (.name 4) (.tup .nil))
  (.seq (.for (.name 5) .range (.cons (.var 2) .nil) rowC)
  (.seq (.ret (.var 4))
  .done)))
section
variable {gl : Nat → Option D} {cf : CF} {sb : Nat → Nat → Option Bool} (Hd : DrawS cf 2)
include Hd
theorem tie_for (ns : List Int) (t : Nat) (ht : t < 800000) {m : Int} (hm : 0 ≤ m) {L : Mem} (hL : Fl L) {a4 a5 a7 a8 : Option D} :
    ∃ ties t' b7 b8, exec gl cf sb (.for (.name 7) .range (.cons (.call 2 (.cons (.var 0) (.cons (.var 1) (.cons (.cst (.int 3)) .nil)))) .nil) tieC) [some (Sc ns), some (.ref 0), some (.int m), some (.bl true), a4, a5, some (tiesD []), a7, a8] (.lst (zs t) :: L) =
      .nx [some (Sc ns), some (.ref 0), some (.int m), some (.bl true), a4, a5, some (tiesD ties), b7, b8] (.lst (zs t') :: L) ∧ ties.length ≤ 3 ∧ (∀ p ∈ ties, 0 ≤ p.1 ∧ p.1 < m + 2) ∧ t ≤ t' ∧ t' ≤ t + 7 := by
  have h0 := drawV_lo (ns := ns) (t := t) (many := 3) (by decide)
  have h1 := drawV_hi (ns := ns) (t := t) (many := 3) (by decide)
  have hd := Hd ns t 3 L (by omega) (by decide) hL
  generalize drawV ns t 3 = c at h0 h1 hd
  have hit : items .range [.int c] (.lst (zs (t + 1)) :: L) = some (rng 0 c) := by
    simp only [items]
    rw [if_pos]
    unfold big
    omega
  rw [ex_for (ds := [.int c]) (M1 := .lst (zs (t + 1)) :: L) (ev_cons ((ev_call rfl).trans hd) ev_nil) hit]
  have hlen : (rng 0 c).length ≤ 2 := by simp [rng]; omega
  obtain ⟨ρ', M', e, ties, t', i, b7, b8, e1, e2, e3, e4, e5, e6, e7⟩ := forL_ind (ds := [D.int c]) (M0 := MO.lst (zs (t + 1)) :: L) (g := forT gl cf sb (.name 7) tieC)
    (fun rst ρ M' => ∃ (ties : List Tie) (t' i : Nat) (b7 b8 : Option D), ρ = [some (Sc ns), some (.ref 0), some (.int m), some (.bl true), a4, a5, some (tiesD ties), b7, b8] ∧ M' = .lst (zs t') :: L ∧ rst.length + i = (rng 0 c).length ∧ ties.length ≤ i ∧ (∀ p ∈ ties, 0 ≤ p.1 ∧ p.1 < m + 2) ∧ t + 1 ≤ t' ∧ t' ≤ t + 1 + 3 * i)
    (by
      rintro x rst ρ M' ⟨ties, t', i, b7, b8, rfl, rfl, e3, e4, e5, e6, e7⟩
      refine ⟨rfl, ?_⟩
      simp only [List.length_cons] at e3
      have d1 := Hd ns t' (m + 2) L (by omega) (by omega) hL
      have d2 := Hd ns (t' + 1) 3 L (by omega) (by decide) hL
      have l1 := drawV_lo (ns := ns) (t := t') (many := m + 2) (by omega)
      have l2 := drawV_hi (ns := ns) (t := t') (many := m + 2) (by omega)
      refine ⟨[some (Sc ns), some (.ref 0), some (.int m), some (.bl true), a4, a5, some (tiesD (ties ++ [(drawV ns t' (m + 2), decide (drawV ns (t' + 1) 3 = 0))])), some x, some (.int (drawV ns t' (m + 2)))], .lst (zs (t' + 2)) :: L, .inl ((forT_eq rfl).trans ?_), ties ++ [(drawV ns t' (m + 2), decide (drawV ns (t' + 1) 3 = 0))], t' + 2, i + 1, _, _, rfl, rfl, by omega, by simp; omega, ?_, by omega, by omega⟩
      · refine (exec_seq (ex_asg ((ev_call (ds := [Sc ns, .ref 0, .int (m + 2)]) rfl).trans d1) rfl)).trans ((exec_seq (ex_asg ?_ rfl)).trans rfl)
        have e2 : eval gl cf (.and (.var 3) (.cmp .Eq (.call 2 (.cons (.var 0) (.cons (.var 1) (.cons (.cst (.int 3)) .nil)))) (.cst (.int 0)))) [some (Sc ns), some (.ref 0), some (.int m), some (.bl true), a4, a5, some (tiesD ties), some x, some (.int (drawV ns t' (m + 2)))] (.lst (zs (t' + 1)) :: L) = .ok (.bl (decide (drawV ns (t' + 1) 3 = 0))) (.lst (zs (t' + 2)) :: L) := by
          refine (ev_andT (x := .bl true) rfl rfl).trans ?_
          show ((cf 2 [Sc ns, .ref 0, .int 3] (MO.lst (zs (t' + 1)) :: L)).bind fun x M => (R.ok (D.int 0) M).bind fun y M => R.ofB (eqD M x y) M) = _
          rw [d2]
          rfl
        refine (ev_bin (x := tiesD ties) (y := .tup [tieD (drawV ns t' (m + 2), decide (drawV ns (t' + 1) 3 = 0))]) rfl (ev_tup (ev_cons (ev_tup (ev_cons rfl (ev_cons e2 ev_nil)) (by show 2 ≤ big; decide)) ev_nil) (by show 1 ≤ big; decide))).trans ?_
        show (if (ties.map tieD).length + 1 ≤ big then R.ok (D.tup (ties.map tieD ++ [tieD (drawV ns t' (m + 2), decide (drawV ns (t' + 1) 3 = 0))])) (MO.lst (zs (t' + 2)) :: L) else .stuck) = _
        rw [if_pos (by rw [List.length_map]; unfold big; omega)]
        unfold tiesD
        rw [List.map_append]
        rfl
      · intro p hp
        rcases List.mem_append.mp hp with hp | hp
        · exact e5 p hp
        · rw [List.mem_singleton.mp hp]
          exact ⟨l1, l2⟩)
    (by rintro ρ M' _; rfl) (rng 0 c) [some (Sc ns), some (.ref 0), some (.int m), some (.bl true), a4, a5, some (tiesD []), a7, a8] (.lst (zs (t + 1)) :: L) ⟨[], t + 1, 0, _, _, rfl, rfl, rfl, Nat.le_refl _, by simp, Nat.le_refl _, Nat.le_refl _⟩
  subst e1 e2
  simp only [List.length_nil] at e3
  exact ⟨ties, t', b7, b8, e, by omega, e5, by omega, by omega⟩
theorem rows_ex (ns : List Int) (t : Nat) (ht : t < 700000) {m : Nat} (hm : m ≤ 100) {L : Mem} (hL : Fl L) :
    ∃ rows t', exec gl cf sb rowsB (start 9 [Sc ns, .ref 0, .int (m : Int), .bl true]) (.lst (zs t) :: L) = .rt (rowsD rows) (.lst (zs t') :: L) ∧ keys rows = (List.range m).map (fun i : Nat => (i : Int)) ∧ (∀ r ∈ rows, r.2.length ≤ 3) ∧ (∀ r ∈ rows, ∀ p ∈ r.2, 0 ≤ p.1 ∧ p.1 < (m : Int) + 2) ∧ t ≤ t' ∧ t' ≤ t + 7 * m := by
  have hit : items .range [.int (m : Int)] (.lst (zs t) :: L) = some (rng 0 (m : Int)) := by
    simp only [items]
    rw [if_pos]
    unfold big
    omega
  have hrng : rng 0 (m : Int) = ((List.range m).map fun i : Nat => (i : Int)).map D.int := by
    unfold rng
    rw [List.map_map]
    simp
  generalize hks : (List.range m).map (fun i : Nat => (i : Int)) = ks at hrng ⊢
  have hkl : ks.length = m := by rw [← hks]; simp
  have hf : ∃ rows t' b5 b6 b7 b8, exec gl cf sb (.for (.name 5) .range (.cons (.var 2) .nil) rowC) [some (Sc ns), some (.ref 0), some (.int (m : Int)), some (.bl true), some (rowsD []), none, none, none, none] (.lst (zs t) :: L) = .nx [some (Sc ns), some (.ref 0), some (.int (m : Int)), some (.bl true), some (rowsD rows), b5, b6, b7, b8] (.lst (zs t') :: L) ∧ keys rows = ks ∧ (∀ r ∈ rows, r.2.length ≤ 3) ∧ (∀ r ∈ rows, ∀ p ∈ r.2, 0 ≤ p.1 ∧ p.1 < (m : Int) + 2) ∧ t ≤ t' ∧ t' ≤ t + 7 * m := by
    rw [ex_for (ds := [.int (m : Int)]) (M1 := .lst (zs t) :: L) rfl hit, hrng]
    obtain ⟨ρ', M', e, pre, post, rows, t', b5, b6, b7, b8, e1, e2, e3, e4, e5, e6, e7, e8, e9⟩ := forL_ind (ds := [D.int (m : Int)]) (M0 := MO.lst (zs t) :: L) (g := forT gl cf sb (.name 5) rowC)
      (fun rst ρ M' => ∃ (pre post : List Int) (rows : List Rw) (t' : Nat) (b5 b6 b7 b8 : Option D), ks = pre ++ post ∧ rst = post.map D.int ∧ ρ = [some (Sc ns), some (.ref 0), some (.int (m : Int)), some (.bl true), some (rowsD rows), b5, b6, b7, b8] ∧ M' = .lst (zs t') :: L ∧ keys rows = pre ∧ (∀ r ∈ rows, r.2.length ≤ 3) ∧ (∀ r ∈ rows, ∀ p ∈ r.2, 0 ≤ p.1 ∧ p.1 < (m : Int) + 2) ∧ t ≤ t' ∧ t' ≤ t + 7 * pre.length)
      (by
        rintro x rst ρ M' ⟨pre, post, rows, t', b5, b6, b7, b8, e1, e2, rfl, rfl, e5, e6, e7, e8, e9⟩
        refine ⟨rfl, ?_⟩
        cases post with
        | nil => cases e2
        | cons o post =>
          rw [List.map_cons] at e2
          injection e2 with e2 e10
          subst e2
          have hpl : pre.length < 100 := by have := congrArg List.length e1; simp at this; omega
          obtain ⟨ties, t'', c7, c8, h, h2, h3, h4, h5⟩ := tie_for (gl := gl) (sb := sb) Hd ns t' (by omega) (m := (m : Int)) (by omega) hL (a4 := some (rowsD rows)) (a5 := some (.int o)) (a7 := b7) (a8 := b8)
          refine ⟨[some (Sc ns), some (.ref 0), some (.int (m : Int)), some (.bl true), some (rowsD (rows ++ [(o, ties)])), some (.int o), some (tiesD ties), c7, c8], .lst (zs t'') :: L, .inl ((forT_eq rfl).trans ?_), pre ++ [o], post, rows ++ [(o, ties)], t'', _, _, _, _, by simp [e1], e10, rfl, rfl, by rw [← e5]; simp [keys], ?_, ?_, by omega, by simp; omega⟩
          · refine (exec_seq (ρ' := [some (Sc ns), some (.ref 0), some (.int (m : Int)), some (.bl true), some (rowsD rows), some (.int o), some (tiesD []), b7, b8]) (M' := .lst (zs t') :: L) rfl).trans ((exec_seq h).trans ((exec_seq (ex_asg ?_ rfl)).trans rfl))
            refine (ev_bin (x := rowsD rows) (y := .tup [rowD (o, ties)]) rfl rfl).trans ?_
            have hrl : rows.length = pre.length := by rw [← e5]; simp [keys]
            show (if (rows.map rowD).length + 1 ≤ big then R.ok (D.tup (rows.map rowD ++ [rowD (o, ties)])) (MO.lst (zs t'') :: L) else .stuck) = _
            rw [if_pos (by rw [List.length_map]; unfold big; omega)]
            unfold rowsD
            rw [List.map_append]
            rfl
          · intro r hr
            rcases List.mem_append.mp hr with hr | hr
            · exact e6 r hr
            · rw [List.mem_singleton.mp hr]; exact h2
          · intro r hr
            rcases List.mem_append.mp hr with hr | hr
            · exact e7 r hr
            · rw [List.mem_singleton.mp hr]; exact h3)
      (by rintro ρ M' _; rfl) (ks.map D.int) [some (Sc ns), some (.ref 0), some (.int (m : Int)), some (.bl true), some (rowsD []), none, none, none, none] (.lst (zs t) :: L) ⟨[], ks, [], t, _, _, _, _, rfl, rfl, rfl, rfl, rfl, by simp, by simp, Nat.le_refl _, by omega⟩
    have : post = [] := by cases post with | nil => rfl | cons _ _ => cases e2
    subst this
    rw [List.append_nil] at e1
    subst e3 e4
    rw [← e1, hkl] at e9
    exact ⟨rows, t', b5, b6, b7, b8, e, by rw [e5, e1], e6, e7, e8, e9⟩
  obtain ⟨rows, t', b5, b6, b7, b8, h, h2, h3, h4, h5, h6⟩ := hf
  refine ⟨rows, t', ?_, h2, h3, h4, h5, h6⟩
  refine (exec_seq (ρ' := [some (Sc ns), some (.ref 0), some (.int (m : Int)), some (.bl true), some (rowsD []), none, none, none, none]) (M' := .lst (zs t) :: L) rfl).trans ((exec_seq h).trans (exec_seq_rt rfl))
end
end P16
end MP

/-! P16b: k16's own defs: the least that is free, twice. -/
namespace MP
namespace P16
open P03
def lfL : S := (.seq (.asg (.name 3) (.comp false [4] (.name 4) .seq (.cons (.blt (.sorted false) (.cons (.var 1) .nil)) .nil) (.not (.blt .any (.cons (.comp false [5, 6] (.tup (.cons (.name 5) (.cons (.name 6) .nil))) .seq (.cons (.idx (.var 1) (.var 4)) .nil) .nil (.cmp .In (.var 5) (.var 1))) .nil))) (.var 4)))
    (.seq (.ite (.not (.var 3))
      (.seq (.ret (.cst .non))
      .done)
      .done)
    (.seq (.asg (.name 2) (.bin (.add false) (.var 2) (.tup (.cons (.tup (.cons (.idx (.var 3) (.cst (.int 0))) (.cons (.tup .nil) .nil))) .nil))))
    (.seq (.expr (.bm .dpop (.var 1) (.cons (.idx (.var 3) (.cst (.int 0))) .nil)))
    .done))))
def lfB : S := (.seq (.par 1 2 (.blt .dict (.cons (.var 0) .nil)) (.tup .nil))
  (.seq (.whl 1000 (.var 1) lfL)
  (.seq (.ret (.var 2))
  .done)))
theorem bls_map : ∀ bs : List Bool, blsOf (bs.map D.bl) = some bs
  | [] => rfl
  | b :: bs => by simp [blsOf, bls_map bs]
theorem any_in (L : List Rw) (l : List Tie) : (!(l.map (inL L)).any id) = (l.filter (inL L)).isEmpty := by
  induction l with
  | nil => rfl
  | cons a l ih =>
    rw [List.map_cons, List.any_cons, List.filter_cons]
    cases h : inL L a with
    | true => simp
    | false => simpa using ih
section
variable {gl : Nat → Option D} {cf : CF} {sb : Nat → Nat → Option Bool}
theorem lf_free {M : Mem} {r : Nat} {L : List Rw} (hr : M[r]? = some (.dK (kvs L))) {a0 a2 a3 a4 a5 a6 : Option D} :
    eval gl cf (.comp false [4] (.name 4) .seq (.cons (.blt (.sorted false) (.cons (.var 1) .nil)) .nil) (.not (.blt .any (.cons (.comp false [5, 6] (.tup (.cons (.name 5) (.cons (.name 6) .nil))) .seq (.cons (.idx (.var 1) (.var 4)) .nil) .nil (.cmp .In (.var 5) (.var 1))) .nil))) (.var 4)) [a0, some (.ref r), a2, a3, a4, a5, a6] M = .ok (.lst ((freeV L false).map D.int)) M := by
  have hsrc : evalL gl cf (.cons (.blt (.sorted false) (.cons (.var 1) .nil)) .nil) [a0, some (.ref r), a2, a3, a4, a5, a6] M = .ok [.lst ((sortI (keys L)).map D.int)] M := by
    refine ev_cons ((ev_blt rfl).trans ?_) ev_nil
    show (match sorted M (.ref r) with | some xs => newL false xs M | none => .stuck) = _
    rw [sorted_dict hr]
    rfl
  let h : D → Option D := fun x => match x with
    | .int k => if (waitsV L k false).isEmpty then some (.int k) else none
    | _ => none
  refine (ev_comp (xs := (sortI (keys L)).map D.int) (ys := [] ++ ((sortI (keys L)).map D.int).filterMap h) (M2 := M) hsrc rfl ?_).trans ?_
  · refine compL_pure (still_same _ _) _ _ fun y hy => ?_
    obtain ⟨k, hk, rfl⟩ := List.mem_map.mp hy
    have hk' : k ∈ keys L := mem_sort.mp hk
    have e1 : eval gl cf (.comp false [5, 6] (.tup (.cons (.name 5) (.cons (.name 6) .nil))) .seq (.cons (.idx (.var 1) (.var 4)) .nil) .nil (.cmp .In (.var 5) (.var 1))) [a0, some (.ref r), a2, a3, some (.int k), a5, a6] M = .ok (.lst (((getR L k).map (inL L)).map D.bl)) M := by
      let g : D → Option D := fun x => some (.bl (inL L (tieOf x)))
      refine (ev_comp (xs := (getR L k).map tieD) (ys := [] ++ ((getR L k).map tieD).filterMap g) (M2 := M) (ev_cons ((ev_idx rfl rfl).trans (idx_dict hr hk')) ev_nil) rfl ?_).trans ?_
      · refine compL_pure (still_same _ _) _ _ fun y hy => ?_
        obtain ⟨p, hp, rfl⟩ := List.mem_map.mp hy
        refine compT_one rfl ?_
        show R.ofB (isIn M (.int p.1) (.ref r)) M = _
        rw [in_dict hr]
        rfl
      · rw [List.nil_append]
        have : ∀ l : List Tie, (l.map tieD).filterMap g = (l.map (inL L)).map D.bl := fun l => by
          induction l with
          | nil => rfl
          | cons a l ih => simp only [List.map_cons, List.filterMap_cons, ih]; rfl
        rw [this]
        rfl
    have t : eval gl cf (.not (.blt .any (.cons (.comp false [5, 6] (.tup (.cons (.name 5) (.cons (.name 6) .nil))) .seq (.cons (.idx (.var 1) (.var 4)) .nil) .nil (.cmp .In (.var 5) (.var 1))) .nil))) [a0, some (.ref r), a2, a3, some (.int k), a5, a6] M = .ok (.bl (waitsV L k false).isEmpty) M := by
      refine (ev_not (M1 := M) (v := ((getR L k).map (inL L)).any id) (x := .bl (((getR L k).map (inL L)).any id)) ((ev_blt (ev_cons e1 ev_nil)).trans ?_) rfl).trans ?_
      · show (match blsOf (((getR L k).map (inL L)).map D.bl) with | some bs => R.ok (D.bl (bs.any id)) M | none => .stuck) = _
        rw [bls_map]
      · rw [any_in, free0]
    cases hq : (waitsV L k false).isEmpty with
    | true =>
      rw [hq] at t
      rw [show h (.int k) = some (.int k) by show (if (waitsV L k false).isEmpty then _ else _) = _; rw [hq]; rfl]
      exact compT_yes rfl rfl t rfl rfl
    | false =>
      rw [hq] at t
      rw [show h (.int k) = none by show (if (waitsV L k false).isEmpty then _ else _) = _; rw [hq]; rfl]
      exact compT_no rfl rfl t rfl
  · rw [List.nil_append, fmap_filter _ (fun k => (waitsV L k false).isEmpty) h fun k _ => rfl]
    rfl
theorem lf_ex {rows : List Rw} (hnd : (keys rows).Nodup) (hlen : rows.length ≤ 500) (M : Mem) : ∃ X, exec gl cf sb lfB (start 7 [rowsD rows]) M = .rt (noneD (leastN rows.length rows)) (M ++ X) := by
  unfold lfB
  have s1 : ∀ t, exec gl cf sb (.seq (.par 1 2 (.blt .dict (.cons (.var 0) .nil)) (.tup .nil)) t) (start 7 [rowsD rows]) M = exec gl cf sb t [some (rowsD rows), some (.ref M.length), some (orderD []), none, none, none, none] (M ++ [.dK (kvs rows)]) := fun t =>
    exec_seq (ex_par (x := .ref M.length) (M1 := M ++ [.dK (kvs rows)]) ((ev_blt rfl).trans (dict_rows hnd M)) rfl)
  rw [s1]
  have loop : (fun f => (∃ ρ' X, f = .nx ρ' (M ++ X) ∧ ρ'[2]? = some (some (noneD (leastN rows.length rows)))) ∨ ∃ X, f = .rt (noneD (leastN rows.length rows)) (M ++ X)) (exec gl cf sb (.whl 1000 (.var 1) lfL) [some (rowsD rows), some (.ref M.length), some (orderD []), none, none, none, none] (M ++ [.dK (kvs rows)])) := by
    rw [ex_whl]
    refine whlL_ind (fun k ρ M' => ∃ found L v3 v4 v5 v6, ρ = [some (rowsD rows), some (.ref M.length), some (orderD found), v3, v4, v5, v6] ∧ M' = M ++ [.dK (kvs L)] ∧ L.length = k ∧ (keys L).Nodup ∧ found.length + L.length = rows.length ∧ leastN rows.length rows = (leastN k L).map (found ++ ·))
      (fun f => (∃ ρ' X, f = .nx ρ' (M ++ X) ∧ ρ'[2]? = some (some (noneD (leastN rows.length rows)))) ∨ ∃ X, f = .rt (noneD (leastN rows.length rows)) (M ++ X)) 1000 rows.length _ _ (by omega) ?_ ⟨[], rows, none, none, none, none, rfl, rfl, rfl, hnd, by simp, by simp⟩
    rintro k ρ M' ⟨found, L, v3, v4, v5, v6, rfl, rfl, rfl, hndL, hfl, hord⟩
    have hr : (M ++ [MO.dK (kvs L)])[M.length]? = some (.dK (kvs L)) := get_end _ _
    have htr : ((eval gl cf (.var 1) [some (rowsD rows), some (.ref M.length), some (orderD found), v3, v4, v5, v6] (M ++ [.dK (kvs L)])).bind toTest) = .ok (!(kvs L).isEmpty) (M ++ [.dK (kvs L)]) := by
      show toTest (.ref M.length) (M ++ [MO.dK (kvs L)]) = _
      simp only [toTest, truth, hr]
    cases L with
    | nil =>
      refine .inl ⟨M ++ [MO.dK (kvs [])], htr, .inl ⟨_, [.dK (kvs [])], rfl, ?_⟩⟩
      rw [hord]
      simp [leastN, noneD]
    | cons r0 L0 =>
      generalize hLe : r0 :: L0 = L at *
      have hne : L ≠ [] := by rw [← hLe]; simp
      have hpos : 0 < L.length := List.length_pos_iff.mpr hne
      obtain ⟨k, hk⟩ : ∃ k, L.length = k + 1 := ⟨L.length - 1, by omega⟩
      refine .inr ⟨M ++ [.dK (kvs L)], htr.trans ?_, ?_⟩
      · rw [show (kvs L).isEmpty = false by rw [← hLe]; rfl]
        rfl
      have hle : leastN L.length L = match (freeV L false).head? with | none => none | some q => (leastN k (rest L q)).map ((q, []) :: ·) := by
        rw [hk]
        simp only [leastN, hne, if_false] <;> (cases (freeV L false).head? <;> rfl)
      have st1 : ∀ t, exec gl cf sb (.seq (.asg (.name 3) (.comp false [4] (.name 4) .seq (.cons (.blt (.sorted false) (.cons (.var 1) .nil)) .nil) (.not (.blt .any (.cons (.comp false [5, 6] (.tup (.cons (.name 5) (.cons (.name 6) .nil))) .seq (.cons (.idx (.var 1) (.var 4)) .nil) .nil (.cmp .In (.var 5) (.var 1))) .nil))) (.var 4))) t) [some (rowsD rows), some (.ref M.length), some (orderD found), v3, v4, v5, v6] (M ++ [.dK (kvs L)]) = exec gl cf sb t [some (rowsD rows), some (.ref M.length), some (orderD found), some (.lst ((freeV L false).map D.int)), v4, v5, v6] (M ++ [.dK (kvs L)]) := fun t =>
        exec_seq (ex_asg (lf_free hr) rfl)
      unfold lfL
      rw [st1]
      have htest : eval gl cf (.not (.var 3)) [some (rowsD rows), some (.ref M.length), some (orderD found), some (.lst ((freeV L false).map D.int)), v4, v5, v6] (M ++ [.dK (kvs L)]) = .ok (.bl (freeV L false).isEmpty) (M ++ [.dK (kvs L)]) := by
        refine (ev_not (v := !((freeV L false).map D.int).isEmpty) rfl rfl).trans ?_
        rw [Bool.not_not, empty_map]
      cases hf : freeV L false with
      | nil =>
        rw [hf] at htest hle
        refine .inr (.inr (.inl ⟨.non, M ++ [.dK (kvs L)], exec_seq_rt ((ex_ifT htest rfl).trans (exec_seq_rt rfl)), .inr ⟨[.dK (kvs L)], ?_⟩⟩))
        rw [hord, hle]
        rfl
      | cons q tl =>
        rw [hf] at htest hle
        have hqm : q ∈ keys L := mem_sort.mp (List.mem_filter.mp (show q ∈ freeV L false by rw [hf]; exact List.mem_cons_self ..)).1
        have hlr := length_rest hndL hqm
        have hix : ∀ M, eval gl cf (.idx (.var 3) (.cst (.int 0))) [some (rowsD rows), some (.ref M.length), some (orderD found), some (.lst ((q :: tl).map D.int)), v4, v5, v6] M = .ok (.int q) M := fun M => by
          refine (ev_idx rfl rfl).trans ?_
          rw [List.map_cons]
          simp only [idx, atD, at0]
        have hix2 : ∀ (f2 : D) (N : Mem), eval gl cf (.idx (.var 3) (.cst (.int 0))) [some (rowsD rows), some (.ref M.length), some f2, some (.lst ((q :: tl).map D.int)), v4, v5, v6] N = .ok (.int q) N := fun f2 N => by
          refine (ev_idx rfl rfl).trans ?_
          rw [List.map_cons]
          simp only [idx, atD, at0]
        refine .inl ⟨[some (rowsD rows), some (.ref M.length), some (orderD (found ++ [(q, [])])), some (.lst ((q :: tl).map D.int)), v4, v5, v6], M ++ [.dK (kvs (rest L q))], (rest L q).length, .inl ?_, by omega, found ++ [(q, [])], rest L q, _, _, _, _, rfl, rfl, rfl, nodup_rest hndL q, by simp; omega, ?_⟩
        · refine (exec_seq (ex_ifF htest rfl)).trans ((exec_seq (ex_asg (x := orderD (found ++ [(q, [])])) (M1 := M ++ [.dK (kvs L)]) ?_ rfl)).trans ((exec_seq (ex_expr (x := tiesD (getR L q)) (M1 := M ++ [MO.dK (kvs (rest L q))]) ((ev_bm (x := .ref M.length) rfl ?_ (ev_cons (hix2 _ _) ev_nil)).trans ?_))).trans rfl))
          · refine (ev_bin (x := orderD found) (y := .tup [stepD (q, [])]) rfl (ev_tup (ev_cons (ev_tup (ev_cons (hix2 _ _) (ev_cons rfl ev_nil)) (by show 2 ≤ big; decide)) ev_nil) (by show 1 ≤ big; decide))).trans ?_
            show (if (found.map stepD).length + 1 ≤ big then R.ok (D.tup (found.map stepD ++ [stepD (q, [])])) (M ++ [MO.dK (kvs L)]) else .stuck) = _
            rw [if_pos (by rw [List.length_map]; unfold big; omega)]
            unfold orderD
            rw [List.map_append]
            rfl
          · simp only [bmOk, hr]
            rfl
          · simp only [bmF, hr, keyOf, dGet_in hqm, set_end, drop_kvs]
            rfl
        · rw [hord, hle]
          have e5 : (rest L q).length = k := by omega
          rw [e5]
          show ((leastN k (rest L q)).map ((q, []) :: ·)).map (found ++ ·) = _
          rw [Option.map_map]
          congr 1
          funext z
          simp
  rcases loop with ⟨ρ', X, e1, e2⟩ | ⟨X, e1⟩
  · refine ⟨X, (exec_seq e1).trans (exec_seq_rt (ex_ret ?_))⟩
    simp only [eval, e2]
  · exact ⟨X, exec_seq_rt e1⟩
/-! ### twice -/
def twL : S := (.seq (.asg (.name 6) (.blt .tuple (.cons (.comp false [7, 8] (.tup (.cons (.name 7) (.cons (.name 8) .nil))) .seq (.cons (.var 5) .nil) .nil (.tup (.cons (.bin (.mul false) (.cst (.int 2)) (.var 7)) (.cons (.var 8) .nil)))) .nil)))
    (.seq (.asg (.name 2) (.bin (.add false) (.var 2) (.tup (.cons (.tup (.cons (.bin (.mul false) (.cst (.int 2)) (.var 4)) (.cons (.var 6) .nil))) .nil))))
    .done))
def twB : S := (.seq (.asg (.name 2) (.tup .nil))
  (.seq (.for (.tup (.cons (.name 4) (.cons (.name 5) .nil))) .seq (.cons (.var 0) .nil) twL)
  (.seq (.asg (.name 3) (.call 4 (.cons (.var 2) .nil)))
  (.seq (.ite (.or (.isN false (.var 1)) (.isN false (.var 3)))
    (.seq (.ret (.and (.isN false (.var 1)) (.isN false (.var 3))))
    .done)
    .done)
  (.seq (.ret (.cmp .Eq (.var 3) (.blt .tuple (.cons (.comp false [9, 10] (.tup (.cons (.name 9) (.cons (.name 10) .nil))) .seq (.cons (.var 1) .nil) .nil (.tup (.cons (.bin (.mul false) (.cst (.int 2)) (.var 9)) (.cons (.blt .tuple (.cons (.comp false [7] (.name 7) .seq (.cons (.var 10) .nil) .nil (.bin (.mul false) (.cst (.int 2)) (.var 7))) .nil)) .nil)))) .nil))))
  .done)))))
theorem mul2 (x : Int) (M : Mem) : op2 (.mul false) (.int 2) (.int x) M = .ok (.int (2 * x)) M := by
  have k : small64 2 = true := by decide
  simp only [op2, k, Bool.true_or, if_true]
theorem map_ev {α : Type} {M : Mem} {ds : List D} {as e : E} {ρ : Env} {tg : Tg} {own : List Nat} (f : α → D) (g : α → D) (l : List α) (k : ItK) (h1 : evalL gl cf as ρ M = .ok ds M) (h2 : items k ds M = some (l.map f)) (h3 : ∀ x ∈ l, compT gl cf tg (wipe ρ own) .nil e (f x) M = .ok (some (g x)) M) : eval gl cf (.comp false own tg k as .nil e) ρ M = .ok (.lst (l.map g)) M := by
  have key : ∀ (l : List α) (acc : List D), (∀ x ∈ l, compT gl cf tg (wipe ρ own) .nil e (f x) M = .ok (some (g x)) M) → compL ds M (compT gl cf tg (wipe ρ own) .nil e) (l.map f) acc M = .ok (acc ++ l.map g) M := fun l => by
    induction l with
    | nil => intro acc _; simp [compL, still_same]
    | cons x l ih =>
      intro acc h
      simp only [List.map_cons, compL, still_same, if_true, h x (List.mem_cons_self ..)]
      rw [ih _ fun y hy => h y (List.mem_cons_of_mem _ hy)]
      simp
  refine (ev_comp h1 h2 (key l [] h3)).trans ?_
  rfl
theorem tw_for (rows : List Rw) (hlen : rows.length ≤ 500) {M : Mem} {a1 a3 a4 a5 a6 a7 a8 a9 a10 : Option D} : ∃ b4 b5 b6, exec gl cf sb (.for (.tup (.cons (.name 4) (.cons (.name 5) .nil))) .seq (.cons (.var 0) .nil) twL) [some (rowsD rows), a1, some (rowsD []), a3, a4, a5, a6, a7, a8, a9, a10] M = .nx [some (rowsD rows), a1, some (rowsD (rows.map twR)), a3, b4, b5, b6, a7, a8, a9, a10] M := by
  rw [ex_for (ds := [rowsD rows]) (M1 := M) (xs := rows.map rowD) rfl rfl]
  obtain ⟨ρ', M', e, pre, post, b4, b5, b6, e1, e2, e3, e4⟩ := forL_ind (ds := [rowsD rows]) (M0 := M) (g := forT gl cf sb (.tup (.cons (.name 4) (.cons (.name 5) .nil))) twL)
    (fun rst ρ M' => ∃ (pre post : List Rw) (b4 b5 b6 : Option D), rows = pre ++ post ∧ rst = post.map rowD ∧ ρ = [some (rowsD rows), a1, some (rowsD (pre.map twR)), a3, b4, b5, b6, a7, a8, a9, a10] ∧ M' = M)
    (by
      rintro x rst ρ M' ⟨pre, post, b4, b5, b6, e1, e2, rfl, rfl⟩
      refine ⟨rfl, ?_⟩
      cases post with
      | nil => cases e2
      | cons r post =>
        rw [List.map_cons] at e2
        injection e2 with e2 e9
        subst e2
        have hpl : pre.length < 500 := by have := congrArg List.length e1; simp at this; omega
        refine ⟨[some (rowsD rows), a1, some (rowsD ((pre ++ [r]).map twR)), a3, some (.int r.1), some (tiesD r.2), some (tiesD (r.2.map twT)), a7, a8, a9, a10], M', .inl ((forT_eq rfl).trans ?_), pre ++ [r], post, _, _, _, by simp [e1], e9, rfl, rfl⟩
        have h6 : eval gl cf (.blt .tuple (.cons (.comp false [7, 8] (.tup (.cons (.name 7) (.cons (.name 8) .nil))) .seq (.cons (.var 5) .nil) .nil (.tup (.cons (.bin (.mul false) (.cst (.int 2)) (.var 7)) (.cons (.var 8) .nil)))) .nil)) [some (rowsD rows), a1, some (rowsD (pre.map twR)), a3, some (.int r.1), some (tiesD r.2), b6, a7, a8, a9, a10] M' = .ok (tiesD (r.2.map twT)) M' := by
          refine (ev_blt (ev_cons (map_ev tieD (fun p => tieD (twT p)) r.2 .seq rfl rfl fun p _ => compT_one rfl (ev_tup (ev_cons ((ev_bin rfl rfl).trans (mul2 p.1 M')) (ev_cons rfl ev_nil)) (by show 2 ≤ big; decide))) ev_nil)).trans ?_
          unfold tiesD
          rw [List.map_map]
          rfl
        refine (exec_seq (ex_asg h6 rfl)).trans ((exec_seq (ex_asg ?_ rfl)).trans rfl)
        refine (ev_bin (x := rowsD (pre.map twR)) (y := .tup [rowD (twR r)]) rfl (ev_tup (ev_cons (ev_tup (ev_cons ((ev_bin rfl rfl).trans (mul2 r.1 M')) (ev_cons rfl ev_nil)) (by show 2 ≤ big; decide)) ev_nil) (by show 1 ≤ big; decide))).trans ?_
        show (if ((pre.map twR).map rowD).length + 1 ≤ big then R.ok (D.tup ((pre.map twR).map rowD ++ [rowD (twR r)])) M' else .stuck) = _
        rw [if_pos (by simp; unfold big; omega)]
        unfold rowsD
        rw [List.map_append, List.map_append]
        rfl)
    (by rintro ρ M' _; rfl) (rows.map rowD) [some (rowsD rows), a1, some (rowsD []), a3, a4, a5, a6, a7, a8, a9, a10] M ⟨[], rows, _, _, _, rfl, rfl, rfl, rfl⟩
  have : post = [] := by cases post with | nil => rfl | cons _ _ => cases e2
  subst this
  rw [List.append_nil] at e1
  subst e3 e4
  rw [← e1] at e
  exact ⟨b4, b5, b6, e⟩
theorem nodup_tw {L : List Rw} (h : (keys L).Nodup) : (keys (L.map twR)).Nodup := by
  rw [keys_tw, List.nodup_iff_pairwise_ne, List.pairwise_map]
  exact h.imp fun {a b} q z => q (by omega)
theorem tw_ex (Ho : ∀ rows M, (keys rows).Nodup → rows.length ≤ 500 → cf 4 [rowsD rows] M = .ok (noneD (orderV rows)) M) {rows : List Rw} (hnd : (keys rows).Nodup) (hlen : rows.length ≤ 500) (M : Mem) : exec gl cf sb twB (start 11 [rowsD rows, noneD (orderV rows)]) M = .rt (.bl true) M := by
  obtain ⟨b4, b5, b6, hf⟩ := tw_for (gl := gl) (cf := cf) (sb := sb) rows hlen (M := M) (a1 := some (noneD (orderV rows))) (a3 := none) (a4 := none) (a5 := none) (a6 := none) (a7 := none) (a8 := none) (a9 := none) (a10 := none)
  have ho2 : orderV (rows.map twR) = (orderV rows).map fun o => o.map twS := by
    unfold orderV
    rw [List.length_map, order_tw]
  have hcall := Ho (rows.map twR) M (nodup_tw hnd) (by rw [List.length_map]; exact hlen)
  rw [ho2] at hcall
  refine (exec_seq (ρ' := [some (rowsD rows), some (noneD (orderV rows)), some (rowsD []), none, none, none, none, none, none, none, none]) (M' := M) rfl).trans ((exec_seq hf).trans ((exec_seq (ex_asg ((ev_call (ds := [rowsD (rows.map twR)]) rfl).trans hcall) rfl)).trans ?_))
  cases ho : orderV rows with
  | none => exact exec_seq_rt ((ex_ifT (x := .bl true) (ev_orT (x := .bl true) rfl rfl) rfl).trans (exec_seq_rt (ex_ret ((ev_andT (x := .bl true) rfl rfl).trans rfl))))
  | some o =>
    refine (exec_seq (ex_ifF (x := .bl false) (M1 := M) ((ev_orF (x := .bl false) rfl rfl).trans rfl) rfl)).trans (exec_seq_rt (ex_ret ?_))
    have h2 : eval gl cf (.blt .tuple (.cons (.comp false [9, 10] (.tup (.cons (.name 9) (.cons (.name 10) .nil))) .seq (.cons (.var 1) .nil) .nil (.tup (.cons (.bin (.mul false) (.cst (.int 2)) (.var 9)) (.cons (.blt .tuple (.cons (.comp false [7] (.name 7) .seq (.cons (.var 10) .nil) .nil (.bin (.mul false) (.cst (.int 2)) (.var 7))) .nil)) .nil)))) .nil)) [some (rowsD rows), some (orderD o), some (rowsD (rows.map twR)), some (orderD (o.map twS)), b4, b5, b6, none, none, none, none] M = .ok (orderD (o.map twS)) M := by
      refine (ev_blt (ev_cons (map_ev stepD (fun s => stepD (twS s)) o .seq rfl rfl fun s _ => ?_) ev_nil)).trans ?_
      · refine compT_one rfl (ev_tup (ev_cons ((ev_bin rfl rfl).trans (mul2 s.1 M)) (ev_cons ((ev_blt (ev_cons (map_ev D.int (fun x => D.int (2 * x)) s.2 .seq rfl rfl fun x _ => compT_one rfl ((ev_bin rfl rfl).trans (mul2 x M))) ev_nil)).trans ?_) ev_nil)) (by show 2 ≤ big; decide))
        show R.ok (D.tup (s.2.map fun x => D.int (2 * x))) M = R.ok (intsD (s.2.map fun x => 2 * x)) M
        unfold intsD
        rw [List.map_map]
        rfl
      · unfold orderD
        rw [List.map_map]
        rfl
    show ((R.ok (orderD (o.map twS)) M).bind fun x M => (eval gl cf (.blt .tuple (.cons (.comp false [9, 10] (.tup (.cons (.name 9) (.cons (.name 10) .nil))) .seq (.cons (.var 1) .nil) .nil (.tup (.cons (.bin (.mul false) (.cst (.int 2)) (.var 9)) (.cons (.blt .tuple (.cons (.comp false [7] (.name 7) .seq (.cons (.var 10) .nil) .nil (.bin (.mul false) (.cst (.int 2)) (.var 7))) .nil)) .nil)))) .nil)) [some (rowsD rows), some (orderD o), some (rowsD (rows.map twR)), some (orderD (o.map twS)), b4, b5, b6, none, none, none, none] M).bind fun y M => R.ofB (eqD M x y) M) = _
    rw [R.bind_ok, h2, R.bind_ok]
    show R.ofB (if (orderD (o.map twS)).good && (orderD (o.map twS)).good then some ((orderD (o.map twS)).eqv (orderD (o.map twS))) else none) M = _
    rw [good_order, eqv_refl _ (flat_order _)]
    rfl
end
end P16
end MP

namespace K16
open MP
/-! functions: 0 put_order, 1 waits, 2 _law_draw, 3 _law_pick, 4 _law_order, 5 _law_rows, 6 _law_least_first, 7 _law_twice_holds, 8 law -/
/-! classes: []; exceptions: ['RowError', 'Ring']; fields: []; globals: [] -/
/-- put_order: 0 rows, 1 found, 2 left, 3 free, 4 some, 5 number -/
def b_put_order : S :=
  (.seq (.asg (.name 1) (.tup .nil))
  (.seq (.asg (.name 2) (.blt .dict (.cons (.var 0) .nil)))
  (.seq (.whl 1000 (.var 2)
    (.seq (.asg (.name 3) (.comp false [5] (.name 5) .seq (.cons (.blt (.sorted false) (.cons (.var 2) .nil)) .nil) (.cmp .Eq (.call 1 (.cons (.var 2) (.cons (.var 5) (.cons (.cst (.bl false)) .nil)))) (.tup .nil)) (.var 5)))
    (.seq (.asg (.name 4) (.comp false [5] (.name 5) .seq (.cons (.blt (.sorted false) (.cons (.var 2) .nil)) .nil) (.cmp .Eq (.call 1 (.cons (.var 2) (.cons (.var 5) (.cons (.cst (.bl true)) .nil)))) (.tup .nil)) (.var 5)))
    (.seq (.ite (.and (.not (.var 3)) (.not (.var 4)))
      (.seq (.rai 1)
      .done)
      .done)
    (.seq (.asg (.name 5) (.idx (.bin (.add false) (.var 3) (.var 4)) (.cst (.int 0))))
    (.seq (.asg (.name 1) (.bin (.add false) (.var 1) (.tup (.cons (.tup (.cons (.var 5) (.cons (.call 1 (.cons (.var 2) (.cons (.var 5) (.cons (.cst (.bl false)) .nil)))) .nil))) .nil))))
    (.seq (.expr (.bm .dpop (.var 2) (.cons (.var 5) .nil)))
    .done)))))))
  (.seq (.ret (.var 1))
  .done))))
def f_put_order : Fn := ⟨1, 6, false, b_put_order⟩
/-- waits: 0 rows, 1 number, 2 is_strict, 3 found, 4 other -/
def b_waits : S :=
  (.seq (.asg (.name 3) (.lst true .nil))
  (.seq (.for (.name 4) .seq (.cons (.blt (.sorted false) (.cons (.var 0) .nil)) .nil)
    (.seq (.ite (.or (.cmp .In (.tup (.cons (.var 4) (.cons (.cst (.bl true)) .nil))) (.idx (.var 0) (.var 1))) (.and (.not (.var 2)) (.cmp .In (.tup (.cons (.var 4) (.cons (.cst (.bl false)) .nil))) (.idx (.var 0) (.var 1)))))
      (.seq (.expr (.bm .append (.var 3) (.cons (.var 4) .nil)))
      .done)
      .done)
    .done))
  (.seq (.ret (.blt .tuple (.cons (.var 3) .nil)))
  .done)))
def f_waits : Fn := ⟨3, 5, false, b_waits⟩
/-- _law_draw: 0 script, 1 town, 2 many, 3 k, 4 cell, 5 number, 6 more -/
def b__law_draw : S :=
  (.seq (.expr (.bm .append (.var 1) (.cons (.cst (.int 0)) .nil)))
  (.seq (.asg (.name 3) (.blt .len (.cons (.var 1) .nil)))
  (.seq (.asg (.name 4) (.cst (.int 0)))
  (.seq (.ite (.var 0)
    (.seq (.asg (.name 4) (.idx (.var 0) (.bin .mod (.var 3) (.blt .len (.cons (.var 0) .nil)))))
    .done)
    .done)
  (.seq (.asg (.name 5) (.bin .mod (.bin (.add false) (.var 4) (.bin (.mul false) (.cst (.int 104729)) (.var 3))) (.cst (.int 4294967291))))
  (.seq (.asg (.name 5) (.bin .mod (.bin (.mul false) (.bin .mod (.bin (.mul false) (.var 5) (.var 5)) (.cst (.int 4294967279))) (.cst (.int 48271))) (.cst (.int 4294967291))))
  (.seq (.asg (.name 6) (.bin .mod (.bin (.mul false) (.bin .mod (.bin (.mul false) (.var 5) (.var 5)) (.cst (.int 4294967279))) (.cst (.int 69621))) (.cst (.int 4294967291))))
  (.seq (.ret (.bin .mod (.bin (.add false) (.bin (.mul false) (.bin .fdiv (.var 5) (.cst (.int 64))) (.cst (.int 67108864))) (.bin .fdiv (.var 6) (.cst (.int 64)))) (.var 2)))
  .done))))))))
def f__law_draw : Fn := ⟨3, 7, false, b__law_draw⟩
/-- _law_pick: 0 script, 1 town, 2 some -/
def b__law_pick : S :=
  (.seq (.ret (.idx (.var 2) (.call 2 (.cons (.var 0) (.cons (.var 1) (.cons (.blt .len (.cons (.var 2) .nil)) .nil))))))
  .done)
def f__law_pick : Fn := ⟨3, 3, false, b__law_pick⟩
/-- _law_order: 0 rows -/
def b__law_order : S :=
  (.seq (.try
    (.seq (.ret (.call 0 (.cons (.var 0) .nil)))
    .done)
    (.hd 1 (.seq (.ret (.cst .non))
    .done)
    .done))
  .done)
def f__law_order : Fn := ⟨1, 1, false, b__law_order⟩
/-- _law_rows: 0 script, 1 town, 2 many, 3 needed, 4 rows, 5 number, 6 ties, 7 j, 8 other -/
def b__law_rows : S :=
  (.seq (.asg (.name 4) (.tup .nil))
  (.seq (.for (.name 5) .range (.cons (.var 2) .nil)
    (.seq (.asg (.name 6) (.tup .nil))
    (.seq (.for (.name 7) .range (.cons (.call 2 (.cons (.var 0) (.cons (.var 1) (.cons (.cst (.int 3)) .nil)))) .nil)
      (.seq (.asg (.name 8) (.call 2 (.cons (.var 0) (.cons (.var 1) (.cons (.bin (.add false) (.var 2) (.cst (.int 2))) .nil)))))
      (.seq (.asg (.name 6) (.bin (.add false) (.var 6) (.tup (.cons (.tup (.cons (.var 8) (.cons (.and (.var 3) (.cmp .Eq (.call 2 (.cons (.var 0) (.cons (.var 1) (.cons (.cst (.int 3)) .nil)))) (.cst (.int 0)))) .nil))) .nil))))
      .done)))
    (.seq (.asg (.name 4) (.bin (.add false) (.var 4) (.tup (.cons (.tup (.cons (.var 5) (.cons (.var 6) .nil))) .nil))))
    .done))))
  (.seq (.ret (.var 4))
  .done)))
def f__law_rows : Fn := ⟨4, 9, false, b__law_rows⟩
/-- _law_least_first: 0 rows, 1 left, 2 found, 3 free, 4 one, 5 other, 6 is_needed -/
def b__law_least_first : S :=
  (.seq (.par 1 2 (.blt .dict (.cons (.var 0) .nil)) (.tup .nil))
  (.seq (.whl 1000 (.var 1)
    (.seq (.asg (.name 3) (.comp false [4] (.name 4) .seq (.cons (.blt (.sorted false) (.cons (.var 1) .nil)) .nil) (.not (.blt .any (.cons (.comp false [5, 6] (.tup (.cons (.name 5) (.cons (.name 6) .nil))) .seq (.cons (.idx (.var 1) (.var 4)) .nil) .nil (.cmp .In (.var 5) (.var 1))) .nil))) (.var 4)))
    (.seq (.ite (.not (.var 3))
      (.seq (.ret (.cst .non))
      .done)
      .done)
    (.seq (.asg (.name 2) (.bin (.add false) (.var 2) (.tup (.cons (.tup (.cons (.idx (.var 3) (.cst (.int 0))) (.cons (.tup .nil) .nil))) .nil))))
    (.seq (.expr (.bm .dpop (.var 1) (.cons (.idx (.var 3) (.cst (.int 0))) .nil)))
    .done)))))
  (.seq (.ret (.var 2))
  .done)))
def f__law_least_first : Fn := ⟨1, 7, false, b__law_least_first⟩
/-- _law_twice_holds: 0 rows, 1 order, 2 twice, 3 got, 4 number, 5 ties, 6 more, 7 other, 8 is_needed, 9 one, 10 some -/
def b__law_twice_holds : S :=
  (.seq (.asg (.name 2) (.tup .nil))
  (.seq (.for (.tup (.cons (.name 4) (.cons (.name 5) .nil))) .seq (.cons (.var 0) .nil)
    (.seq (.asg (.name 6) (.blt .tuple (.cons (.comp false [7, 8] (.tup (.cons (.name 7) (.cons (.name 8) .nil))) .seq (.cons (.var 5) .nil) .nil (.tup (.cons (.bin (.mul false) (.cst (.int 2)) (.var 7)) (.cons (.var 8) .nil)))) .nil)))
    (.seq (.asg (.name 2) (.bin (.add false) (.var 2) (.tup (.cons (.tup (.cons (.bin (.mul false) (.cst (.int 2)) (.var 4)) (.cons (.var 6) .nil))) .nil))))
    .done)))
  (.seq (.asg (.name 3) (.call 4 (.cons (.var 2) .nil)))
  (.seq (.ite (.or (.isN false (.var 1)) (.isN false (.var 3)))
    (.seq (.ret (.and (.isN false (.var 1)) (.isN false (.var 3))))
    .done)
    .done)
  (.seq (.ret (.cmp .Eq (.var 3) (.blt .tuple (.cons (.comp false [9, 10] (.tup (.cons (.name 9) (.cons (.name 10) .nil))) .seq (.cons (.var 1) .nil) .nil (.tup (.cons (.bin (.mul false) (.cst (.int 2)) (.var 9)) (.cons (.blt .tuple (.cons (.comp false [7] (.name 7) .seq (.cons (.var 10) .nil) .nil (.bin (.mul false) (.cst (.int 2)) (.var 7))) .nil)) .nil)))) .nil))))
  .done)))))
def f__law_twice_holds : Fn := ⟨2, 11, false, b__law_twice_holds⟩
/-- law: 0 script, 1 town, 2 k, 3 many, 4 rows, 5 order, 6 more, 7 straight, 8 free, 9 ring, 10 broken, 11 rest, 12 number, 13 ties, 14 row, 15 one, 16 some, 17 other, 18 is_needed -/
def b_law : S :=
  (.seq (.asg (.name 1) (.lst true .nil))
  (.seq (.for (.name 2) .range (.cons (.cst (.int 12)) .nil)
    (.seq (.asg (.name 3) (.call 2 (.cons (.var 0) (.cons (.var 1) (.cons (.cst (.int 9)) .nil)))))
    (.seq (.asg (.name 4) (.call 5 (.cons (.var 0) (.cons (.var 1) (.cons (.var 3) (.cons (.cst (.bl true)) .nil))))))
    (.seq (.asg (.name 5) (.call 4 (.cons (.var 4) .nil)))
    (.seq (.ite (.not (.call 7 (.cons (.var 4) (.cons (.var 5) .nil))))
      (.seq (.ret (.cst (.bl false)))
      .done)
      .done)
    (.seq (.asg (.name 6) (.blt .tuple (.cons (.comp false [12, 13] (.tup (.cons (.name 12) (.cons (.name 13) .nil))) .seq (.cons (.var 4) .nil) .nil (.tup (.cons (.var 12) (.cons (.bin (.add false) (.bin (.add false) (.rev (.var 13)) (.var 13)) (.tup (.cons (.tup (.cons (.cst (.int 99)) (.cons (.cst (.bl true)) .nil))) .nil))) .nil)))) .nil)))
    (.seq (.ite (.cmp .NotEq (.call 4 (.cons (.var 6) .nil)) (.var 5))
      (.seq (.ret (.cst (.bl false)))
      .done)
      .done)
    (.seq (.ite (.var 5)
      (.seq (.asg (.name 11) (.blt .tuple (.cons (.comp false [14] (.name 14) .seq (.cons (.var 4) .nil) (.cmp .NotEq (.idx (.var 14) (.cst (.int 0))) (.idx (.idx (.var 5) (.cst (.int 0))) (.cst (.int 0)))) (.var 14)) .nil)))
      (.seq (.ite (.cmp .NotEq (.call 4 (.cons (.var 11) .nil)) (.slc false (.var 5) (.cst (.int 1)) .nil))
        (.seq (.ret (.cst (.bl false)))
        .done)
        .done)
      .done))
      .done)
    (.seq (.asg (.name 7) (.call 6 (.cons (.var 4) .nil)))
    (.seq (.ite (.and (.isN true (.var 7)) (.cmp .NotEq (.var 5) (.var 7)))
      (.seq (.ret (.cst (.bl false)))
      .done)
      .done)
    (.seq (.asg (.name 8) (.blt .tuple (.cons (.comp false [12, 13] (.tup (.cons (.name 12) (.cons (.name 13) .nil))) .seq (.cons (.var 4) .nil) .nil (.tup (.cons (.var 12) (.cons (.blt .tuple (.cons (.comp false [17, 18] (.tup (.cons (.name 17) (.cons (.name 18) .nil))) .seq (.cons (.var 13) .nil) .nil (.tup (.cons (.var 17) (.cons (.cst (.bl false)) .nil)))) .nil)) .nil)))) .nil)))
    (.seq (.ite (.or (.isN false (.call 4 (.cons (.var 8) .nil))) (.cmp .NotEq (.blt (.sorted false) (.cons (.comp false [15, 16] (.tup (.cons (.name 15) (.cons (.name 16) .nil))) .seq (.cons (.call 4 (.cons (.var 8) .nil)) .nil) .nil (.var 15)) .nil)) (.blt (.listrng false) (.cons (.var 3) .nil))))
      (.seq (.ret (.cst (.bl false)))
      .done)
      .done)
    (.seq (.asg (.name 9) (.bin (.add false) (.var 4) (.tup (.cons (.tup (.cons (.cst (.int 50)) (.cons (.tup (.cons (.tup (.cons (.cst (.int 51)) (.cons (.cst (.bl true)) .nil))) .nil)) .nil))) (.cons (.tup (.cons (.cst (.int 51)) (.cons (.tup (.cons (.tup (.cons (.cst (.int 52)) (.cons (.cst (.bl true)) .nil))) .nil)) .nil))) (.cons (.tup (.cons (.cst (.int 52)) (.cons (.tup (.cons (.tup (.cons (.cst (.int 50)) (.cons (.cst (.bl true)) .nil))) .nil)) .nil))) .nil))))))
    (.seq (.asg (.name 10) (.bin (.add false) (.slc false (.var 9) .nil (.neg (.cst (.int 1)))) (.tup (.cons (.tup (.cons (.cst (.int 52)) (.cons (.tup (.cons (.tup (.cons (.cst (.int 50)) (.cons (.cst (.bl false)) .nil))) .nil)) .nil))) .nil))))
    (.seq (.ite (.or (.isN true (.call 4 (.cons (.var 9) .nil))) (.and (.isN false (.call 4 (.cons (.var 10) .nil))) (.isN true (.var 5))))
      (.seq (.ret (.cst (.bl false)))
      .done)
      .done)
    (.seq (.ite (.or (.isN true (.call 4 (.cons (.tup (.cons (.tup (.cons (.cst (.int 3)) (.cons (.tup (.cons (.tup (.cons (.cst (.int 3)) (.cons (.cst (.bl true)) .nil))) .nil)) .nil))) .nil)) .nil))) (.cmp .NotEq (.call 4 (.cons (.tup (.cons (.tup (.cons (.cst (.int 3)) (.cons (.tup (.cons (.tup (.cons (.cst (.int 3)) (.cons (.cst (.bl false)) .nil))) .nil)) .nil))) .nil)) .nil)) (.tup (.cons (.tup (.cons (.cst (.int 3)) (.cons (.tup (.cons (.cst (.int 3)) .nil)) .nil))) .nil))))
      (.seq (.ret (.cst (.bl false)))
      .done)
      .done)
    .done))))))))))))))))
  (.seq (.ret (.cst (.bl true)))
  .done)))
def f_law : Fn := ⟨1, 19, false, b_law⟩
def gl : Nat → Option D
  | _ => none
def sub : List (List Bool) := [[true, false], [true, true]]
def prog : Prog := ⟨[f_put_order, f_waits, f__law_draw, f__law_pick, f__law_order, f__law_rows, f__law_least_first, f__law_twice_holds, f_law], gl, sub⟩
open PySem PySem.Spec PyProof.Rows L2
def top (i : Nat) : Stmt := PySem.Challenge.pw_rowkeep_k16_whole_orders_led_on.main.body.getD i (.Pass ⟨0, 0, 0, 0⟩)
def ds : List Df := [
  ⟨"put_order", top 4, ["rows"], ["rows", "found", "left", "free", "some", "number"]⟩,
  ⟨"waits", top 5, ["rows", "number", "is_strict"], ["rows", "number", "is_strict", "found", "other"]⟩,
  ⟨"_law_draw", top 7, ["script", "town", "many"], ["script", "town", "many", "k", "cell", "number", "more"]⟩,
  ⟨"_law_pick", top 8, ["script", "town", "some"], ["script", "town", "some"]⟩,
  ⟨"_law_order", top 9, ["rows"], ["rows"]⟩,
  ⟨"_law_rows", top 10, ["script", "town", "many", "needed"], ["script", "town", "many", "needed", "rows", "number", "ties", "j", "other"]⟩,
  ⟨"_law_least_first", top 11, ["rows"], ["rows", "left", "found", "free", "one", "other", "is_needed"]⟩,
  ⟨"_law_twice_holds", top 12, ["rows", "order"], ["rows", "order", "twice", "got", "number", "ties", "more", "other", "is_needed", "one", "some"]⟩,
  ⟨"law", top 13, ["script"], ["script", "town", "k", "many", "rows", "order", "more", "straight", "free", "ring", "broken", "rest", "number", "ties", "row", "one", "some", "other", "is_needed"]⟩]
def pk : Pk := ⟨prog, ds, ["RowError", "Ring"]⟩
theorem bd : bindAll pk.ds := ⟨fun _ _ _ _ _ _ us hl => match us, hl with | [_], _ => rfl,
  fun _ _ _ _ _ _ us hl => match us, hl with | [_, _, _], _ => rfl,
  fun _ _ _ _ _ _ us hl => match us, hl with | [_, _, _], _ => rfl,
  fun _ _ _ _ _ _ us hl => match us, hl with | [_, _, _], _ => rfl,
  fun _ _ _ _ _ _ us hl => match us, hl with | [_], _ => rfl,
  fun _ _ _ _ _ _ us hl => match us, hl with | [_, _, _, _], _ => rfl,
  fun _ _ _ _ _ _ us hl => match us, hl with | [_], _ => rfl,
  fun _ _ _ _ _ _ us hl => match us, hl with | [_, _], _ => rfl,
  fun _ _ _ _ _ _ us hl => match us, hl with | [_], _ => rfl, trivial⟩
theorem ck : chkAll pk.tb pk.ds pk.P.funs = true := by decide +kernel
def names : List Str := ["__name__", "RowError", "Ring", "put_order", "waits", "_law_draw", "_law_pick", "_law_order", "_law_rows", "_law_least_first", "_law_twice_holds"]
abbrev rw0 : PySem.W.OpenLaw := PySem.Challenge.rw_rowkeep_k16_whole_orders_led_on
abbrev Rw : PySem.W.OpenRow := PySem.W.OpenLaw.row rw0
abbrev qv : Program := PySem.W.view Rw.prog [13]
abbrev hk : PySem.W.Hook := hookL 4 pk.fa pk.dd
theorem run (w : World) : HandSHeadRun.RunEq Rw qv hk (obL 4 pk.fa pk.dd) 3000 names w := by
  intro os
  kernel_rfl
/- law: top 13, index 8 -/
end K16

/-! P16c: k16's law. -/
namespace MP
namespace P16
open P03
theorem ev_isN {gl : Nat → Option D} {cf : CF} {ρ : Env} {M M1 : Mem} {a : E} {x : D} {n : Bool} (h : eval gl cf a ρ M = .ok x M1) : eval gl cf (.isN n a) ρ M = .ok (.bl (match x with | .non => !n | _ => n)) M1 := by simp only [eval, h, R.bind_ok] <;> (cases x <;> rfl)
def mrR (r : Rw) : Rw := (r.1, r.2.reverse ++ r.2 ++ [(99, true)])
def frR (r : Rw) : Rw := (r.1, r.2.map fun p => (p.1, false))
def ringT : List Rw := [(50, [(51, true)]), (51, [(52, true)]), (52, [(50, true)])]
theorem keys_mr (L : List Rw) : keys (L.map mrR) = keys L := by unfold keys; rw [List.map_map]; rfl
theorem keys_fr (L : List Rw) : keys (L.map frR) = keys L := by unfold keys; rw [List.map_map]; rfl
theorem getR_mr {L : List Rw} {k : Int} (hk : k ∈ keys L) : getR (L.map mrR) k = (getR L k).reverse ++ getR L k ++ [(99, true)] := by
  unfold getR
  induction L with
  | nil => cases hk
  | cons r L ih =>
    rw [List.map_cons, List.find?_cons, List.find?_cons]
    by_cases h : r.1 = k
    · simp [mrR, h]
    · simp only [mrR, h, decide_false]
      exact ih (by rcases List.mem_cons.mp hk with e | e; exact absurd e.symm h; exact e)
theorem order_mr {L : List Rw} (h : ∀ k ∈ keys L, k < 50) : orderV (L.map mrR) = orderV L := by
  unfold orderV
  rw [List.length_map]
  refine (order_congr _ _ _ (keys_mr L).symm fun k hk o ho s => ?_).symm
  rw [getR_mr hk]
  have ho' := h o ho
  have e : ∀ b, ((getR L k).reverse ++ getR L k ++ [(99, true)]).contains (o, b) = (getR L k).contains (o, b) := fun b => by
    rw [Bool.eq_iff_iff, List.contains_iff_mem, List.contains_iff_mem]
    constructor
    · intro z
      rcases List.mem_append.mp z with z | z
      · rcases List.mem_append.mp z with z | z
        · exact List.mem_reverse.mp z
        · exact z
      · have := List.mem_singleton.mp z
        injection this with h1 _
        omega
    · intro z
      exact List.mem_append_left _ (List.mem_append_right _ z)
  unfold waitOn
  rw [e, e]
theorem eq_none (M : Mem) (r : Option (List Step)) : eqD M (noneD r) (noneD r) = some true := by
  cases r with
  | none => rfl
  | some o =>
    show (if (orderD o).good && (orderD o).good then some ((orderD o).eqv (orderD o)) else none) = _
    rw [good_order, eqv_refl _ (flat_order _)]
    rfl
def iterC : S :=
    (.seq (.asg (.name 3) (.call 2 (.cons (.var 0) (.cons (.var 1) (.cons (.cst (.int 9)) .nil)))))
    (.seq (.asg (.name 4) (.call 5 (.cons (.var 0) (.cons (.var 1) (.cons (.var 3) (.cons (.cst (.bl true)) .nil))))))
    (.seq (.asg (.name 5) (.call 4 (.cons (.var 4) .nil)))
    (.seq (.ite (.not (.call 7 (.cons (.var 4) (.cons (.var 5) .nil))))
      (.seq (.ret (.cst (.bl false)))
      .done)
      .done)
    (.seq (.asg (.name 6) (.blt .tuple (.cons (.comp false [12, 13] (.tup (.cons (.name 12) (.cons (.name 13) .nil))) .seq (.cons (.var 4) .nil) .nil (.tup (.cons (.var 12) (.cons (.bin (.add false) (.bin (.add false) (.rev (.var 13)) (.var 13)) (.tup (.cons (.tup (.cons (.cst (.int 99)) (.cons (.cst (.bl true)) .nil))) .nil))) .nil)))) .nil)))
    (.seq (.ite (.cmp .NotEq (.call 4 (.cons (.var 6) .nil)) (.var 5))
      (.seq (.ret (.cst (.bl false)))
      .done)
      .done)
    (.seq (.ite (.var 5)
      (.seq (.asg (.name 11) (.blt .tuple (.cons (.comp false [14] (.name 14) .seq (.cons (.var 4) .nil) (.cmp .NotEq (.idx (.var 14) (.cst (.int 0))) (.idx (.idx (.var 5) (.cst (.int 0))) (.cst (.int 0)))) (.var 14)) .nil)))
      (.seq (.ite (.cmp .NotEq (.call 4 (.cons (.var 11) .nil)) (.slc false (.var 5) (.cst (.int 1)) .nil))
        (.seq (.ret (.cst (.bl false)))
        .done)
        .done)
      .done))
      .done)
    (.seq (.asg (.name 7) (.call 6 (.cons (.var 4) .nil)))
    (.seq (.ite (.and (.isN true (.var 7)) (.cmp .NotEq (.var 5) (.var 7)))
      (.seq (.ret (.cst (.bl false)))
      .done)
      .done)
    (.seq (.asg (.name 8) (.blt .tuple (.cons (.comp false [12, 13] (.tup (.cons (.name 12) (.cons (.name 13) .nil))) .seq (.cons (.var 4) .nil) .nil (.tup (.cons (.var 12) (.cons (.blt .tuple (.cons (.comp false [17, 18] (.tup (.cons (.name 17) (.cons (.name 18) .nil))) .seq (.cons (.var 13) .nil) .nil (.tup (.cons (.var 17) (.cons (.cst (.bl false)) .nil)))) .nil)) .nil)))) .nil)))
    (.seq (.ite (.or (.isN false (.call 4 (.cons (.var 8) .nil))) (.cmp .NotEq (.blt (.sorted false) (.cons (.comp false [15, 16] (.tup (.cons (.name 15) (.cons (.name 16) .nil))) .seq (.cons (.call 4 (.cons (.var 8) .nil)) .nil) .nil (.var 15)) .nil)) (.blt (.listrng false) (.cons (.var 3) .nil))))
      (.seq (.ret (.cst (.bl false)))
      .done)
      .done)
    (.seq (.asg (.name 9) (.bin (.add false) (.var 4) (.tup (.cons (.tup (.cons (.cst (.int 50)) (.cons (.tup (.cons (.tup (.cons (.cst (.int 51)) (.cons (.cst (.bl true)) .nil))) .nil)) .nil))) (.cons (.tup (.cons (.cst (.int 51)) (.cons (.tup (.cons (.tup (.cons (.cst (.int 52)) (.cons (.cst (.bl true)) .nil))) .nil)) .nil))) (.cons (.tup (.cons (.cst (.int 52)) (.cons (.tup (.cons (.tup (.cons (.cst (.int 50)) (.cons (.cst (.bl true)) .nil))) .nil)) .nil))) .nil))))))
    (.seq (.asg (.name 10) (.bin (.add false) (.slc false (.var 9) .nil (.neg (.cst (.int 1)))) (.tup (.cons (.tup (.cons (.cst (.int 52)) (.cons (.tup (.cons (.tup (.cons (.cst (.int 50)) (.cons (.cst (.bl false)) .nil))) .nil)) .nil))) .nil))))
    (.seq (.ite (.or (.isN true (.call 4 (.cons (.var 9) .nil))) (.and (.isN false (.call 4 (.cons (.var 10) .nil))) (.isN true (.var 5))))
      (.seq (.ret (.cst (.bl false)))
      .done)
      .done)
    (.seq (.ite (.or (.isN true (.call 4 (.cons (.tup (.cons (.tup (.cons (.cst (.int 3)) (.cons (.tup (.cons (.tup (.cons (.cst (.int 3)) (.cons (.cst (.bl true)) .nil))) .nil)) .nil))) .nil)) .nil))) (.cmp .NotEq (.call 4 (.cons (.tup (.cons (.tup (.cons (.cst (.int 3)) (.cons (.tup (.cons (.tup (.cons (.cst (.int 3)) (.cons (.cst (.bl false)) .nil))) .nil)) .nil))) .nil)) .nil)) (.tup (.cons (.tup (.cons (.cst (.int 3)) (.cons (.tup (.cons (.cst (.int 3)) .nil)) .nil))) .nil))))
      (.seq (.ret (.cst (.bl false)))
      .done)
      .done)
    .done)))))))))))))))
theorem law_eq : K16.b_law = (.seq (.asg (.name 1) (.lst true .nil)) (.seq (.for (.name 2) .range (.cons (.cst (.int 12)) .nil) iterC) (.seq (.ret (.cst (.bl true))) .done))) := rfl
section
variable {gl : Nat → Option D} {cf : CF} {sb : Nat → Nat → Option Bool} (Hd : DrawS cf 2)
  (Hr : ∀ (ns : List Int) (t m : Nat) (L : Mem), t < 700000 → m ≤ 100 → Fl L → ∃ rows t', cf 5 [Sc ns, .ref 0, .int (m : Int), .bl true] (.lst (zs t) :: L) = .ok (rowsD rows) (.lst (zs t') :: L) ∧ keys rows = (List.range m).map (fun i : Nat => (i : Int)) ∧ (∀ r ∈ rows, r.2.length ≤ 3) ∧ (∀ r ∈ rows, ∀ p ∈ r.2, 0 ≤ p.1 ∧ p.1 < (m : Int) + 2) ∧ t ≤ t' ∧ t' ≤ t + 7 * m)
  (Ho : ∀ rows M, (keys rows).Nodup → rows.length ≤ 500 → cf 4 [rowsD rows] M = .ok (noneD (orderV rows)) M)
  (Hf : ∀ rows M, (keys rows).Nodup → rows.length ≤ 500 → cf 6 [rowsD rows] M = .ok (noneD (leastN rows.length rows)) M)
  (Ht : ∀ rows M, (keys rows).Nodup → rows.length ≤ 500 → cf 7 [rowsD rows, noneD (orderV rows)] M = .ok (.bl true) M)
include Hd Hr Ho Hf Ht
theorem iter (ns : List Int) (t : Nat) (ht : t < 600000) {L : Mem} (hL : Fl L) {a2 a3 a4 a5 a6 a7 a8 a9 a10 a11 a12 a13 a14 a15 a16 a17 a18 : Option D} :
    ∃ t' b3 b4 b5 b6 b7 b8 b9 b10 b11, exec gl cf sb iterC [some (Sc ns), some (.ref 0), a2, a3, a4, a5, a6, a7, a8, a9, a10, a11, a12, a13, a14, a15, a16, a17, a18] (.lst (zs t) :: L) =
      .nx [some (Sc ns), some (.ref 0), a2, b3, b4, b5, b6, b7, b8, b9, b10, b11, a12, a13, a14, a15, a16, a17, a18] (.lst (zs t') :: L) ∧ t' ≤ t + 100 := by
  have hc0 := drawV_lo (ns := ns) (t := t) (many := 9) (by decide)
  have hc1 := drawV_hi (ns := ns) (t := t) (many := 9) (by decide)
  have hd := Hd ns t 9 L (by omega) (by decide) hL
  obtain ⟨c, hc⟩ : ∃ c : Nat, drawV ns t 9 = (c : Int) := ⟨(drawV ns t 9).toNat, by omega⟩
  rw [hc] at hd hc1
  have hc9 : c < 9 := by omega
  obtain ⟨rows, t2, hrows, hkeys, hl3, hties, ht1, ht2⟩ := Hr ns (t + 1) c L (by omega) (by omega) hL
  generalize hM : (MO.lst (zs t2) :: L : Mem) = M at hrows
  have hkmem : ∀ k ∈ keys rows, 0 ≤ k ∧ k < (c : Int) := fun k hk => by
    rw [hkeys] at hk
    obtain ⟨i, hi, rfl⟩ := List.mem_map.mp hk
    have := List.mem_range.mp hi
    omega
  have hnd : (keys rows).Nodup := by
    rw [hkeys, List.nodup_iff_pairwise_ne, List.pairwise_map]
    exact (List.nodup_range (n := c)).imp fun {a b} q z => q (by omega)
  have hrl : rows.length = c := by
    have := congrArg List.length hkeys
    simpa [keys] using this
  have hr5 : rows.length ≤ 500 := by omega
  have hk50 : ∀ k ∈ keys rows, k < 50 := fun k hk => by have := hkmem k hk; omega
  have ht50 : ∀ r ∈ rows, ∀ p ∈ r.2, p.1 < 50 := fun r hr p hp => by have := hties r hr p hp; omega
  -- more
  have hmore : ∀ b6, eval gl cf (.blt .tuple (.cons (.comp false [12, 13] (.tup (.cons (.name 12) (.cons (.name 13) .nil))) .seq (.cons (.var 4) .nil) .nil (.tup (.cons (.var 12) (.cons (.bin (.add false) (.bin (.add false) (.rev (.var 13)) (.var 13)) (.tup (.cons (.tup (.cons (.cst (.int 99)) (.cons (.cst (.bl true)) .nil))) .nil))) .nil)))) .nil)) [some (Sc ns), some (.ref 0), a2, some (.int (c : Int)), some (rowsD rows), some (noneD (orderV rows)), b6, a7, a8, a9, a10, a11, a12, a13, a14, a15, a16, a17, a18] M = .ok (rowsD (rows.map mrR)) M := fun b6 => by
    refine (ev_blt (ev_cons (map_ev rowD (fun r => rowD (mrR r)) rows .seq rfl rfl fun r hr => compT_one rfl (ev_tup (ev_cons rfl (ev_cons ?_ ev_nil)) (by show 2 ≤ big; decide))) ev_nil)).trans ?_
    · have hlr := hl3 r hr
      refine (ev_bin (x := tiesD (r.2.reverse ++ r.2)) (y := .tup [tieD (99, true)]) (M1 := M) ((ev_bin (x := tiesD r.2.reverse) (y := tiesD r.2) (M1 := M) ?_ rfl).trans ?_) rfl).trans ?_
      · show R.ok (D.tup (r.2.map tieD).reverse) M = _
        rw [← List.map_reverse]
        rfl
      · show (if (r.2.reverse.map tieD).length + (r.2.map tieD).length ≤ big then R.ok (D.tup (r.2.reverse.map tieD ++ r.2.map tieD)) M else .stuck) = _
        rw [if_pos (by simp; unfold big; omega), ← List.map_append]
        rfl
      · show (if ((r.2.reverse ++ r.2).map tieD).length + 1 ≤ big then R.ok (D.tup ((r.2.reverse ++ r.2).map tieD ++ [tieD (99, true)])) M else .stuck) = _
        rw [if_pos (by simp; unfold big; omega)]
        show R.ok (D.tup ((r.2.reverse ++ r.2).map tieD ++ [(99, true)].map tieD)) M = _
        rw [← List.map_append]
        rfl
    · unfold rowsD
      rw [List.map_map]
      rfl
  have hnm : (keys (rows.map mrR)).Nodup := by rw [keys_mr]; exact hnd
  have hnf : (keys (rows.map frR)).Nodup := by rw [keys_fr]; exact hnd
  have hcm := Ho (rows.map mrR) M hnm (by rw [List.length_map]; exact hr5)
  rw [order_mr hk50] at hcm
  have hneq : ∀ (b6 b7 b8 b9 b10 b11 : Option D), b6 = some (rowsD (rows.map mrR)) → eval gl cf (.cmp .NotEq (.call 4 (.cons (.var 6) .nil)) (.var 5)) [some (Sc ns), some (.ref 0), a2, some (.int (c : Int)), some (rowsD rows), some (noneD (orderV rows)), b6, b7, b8, b9, b10, b11, a12, a13, a14, a15, a16, a17, a18] M = .ok (.bl false) M := fun b6 b7 b8 b9 b10 b11 hb => by
    subst hb
    show ((cf 4 [rowsD (rows.map mrR)] M).bind fun x M => (R.ok (noneD (orderV rows)) M).bind fun y M => R.ofB ((eqD M x y).map not) M) = _
    rw [hcm, R.bind_ok, R.bind_ok, eq_none]
    rfl
  -- the rest of the rows
  have hrest : ∃ b11, exec gl cf sb (.ite (.var 5)
      (.seq (.asg (.name 11) (.blt .tuple (.cons (.comp false [14] (.name 14) .seq (.cons (.var 4) .nil) (.cmp .NotEq (.idx (.var 14) (.cst (.int 0))) (.idx (.idx (.var 5) (.cst (.int 0))) (.cst (.int 0)))) (.var 14)) .nil)))
      (.seq (.ite (.cmp .NotEq (.call 4 (.cons (.var 11) .nil)) (.slc false (.var 5) (.cst (.int 1)) .nil))
        (.seq (.ret (.cst (.bl false)))
        .done)
        .done)
      .done))
      .done) [some (Sc ns), some (.ref 0), a2, some (.int (c : Int)), some (rowsD rows), some (noneD (orderV rows)), some (rowsD (rows.map mrR)), a7, a8, a9, a10, a11, a12, a13, a14, a15, a16, a17, a18] M = .nx [some (Sc ns), some (.ref 0), a2, some (.int (c : Int)), some (rowsD rows), some (noneD (orderV rows)), some (rowsD (rows.map mrR)), a7, a8, a9, a10, b11, a12, a13, a14, a15, a16, a17, a18] M := by
    cases ho : orderV rows with
    | none => exact ⟨_, ex_ifF (x := .non) rfl rfl⟩
    | some o =>
      cases o with
      | nil => exact ⟨_, ex_ifF (x := orderD []) rfl rfl⟩
      | cons st o =>
        obtain ⟨k, ws⟩ := st
        refine ⟨some (rowsD (rest rows k)), (ex_ifT (x := orderD ((k, ws) :: o)) rfl rfl).trans ?_⟩
        let h : D → Option D := fun x => match x with
          | .tup [.int j, _] => if decide (j ≠ k) then some x else none
          | _ => none
        have hcomp : eval gl cf (.comp false [14] (.name 14) .seq (.cons (.var 4) .nil) (.cmp .NotEq (.idx (.var 14) (.cst (.int 0))) (.idx (.idx (.var 5) (.cst (.int 0))) (.cst (.int 0)))) (.var 14)) [some (Sc ns), some (.ref 0), a2, some (.int (c : Int)), some (rowsD rows), some (orderD ((k, ws) :: o)), some (rowsD (rows.map mrR)), a7, a8, a9, a10, a11, a12, a13, a14, a15, a16, a17, a18] M = .ok (.lst ((rest rows k).map rowD)) M := by
          refine (ev_comp (xs := rows.map rowD) (ys := [] ++ (rows.map rowD).filterMap h) (M2 := M) rfl rfl ?_).trans ?_
          · refine compL_pure (still_same _ _) _ _ fun y hy => ?_
            obtain ⟨r, hr, rfl⟩ := List.mem_map.mp hy
            have i1 : eval gl cf (.idx (.var 14) (.cst (.int 0))) [some (Sc ns), some (.ref 0), a2, some (.int (c : Int)), some (rowsD rows), some (orderD ((k, ws) :: o)), some (rowsD (rows.map mrR)), a7, a8, a9, a10, a11, a12, a13, some (rowD r), a15, a16, a17, a18] M = .ok (.int r.1) M := by
              refine (ev_idx rfl rfl).trans ?_
              simp only [idx, rowD, atD, at0]
            have i2 : eval gl cf (.idx (.idx (.var 5) (.cst (.int 0))) (.cst (.int 0))) [some (Sc ns), some (.ref 0), a2, some (.int (c : Int)), some (rowsD rows), some (orderD ((k, ws) :: o)), some (rowsD (rows.map mrR)), a7, a8, a9, a10, a11, a12, a13, some (rowD r), a15, a16, a17, a18] M = .ok (.int k) M := by
              refine (ev_idx (x := stepD (k, ws)) (M1 := M) ((ev_idx rfl rfl).trans ?_) rfl).trans ?_
              · simp only [idx, orderD, List.map_cons, atD, at0]
              · simp only [idx, stepD, atD, at0]
            have t : eval gl cf (.cmp .NotEq (.idx (.var 14) (.cst (.int 0))) (.idx (.idx (.var 5) (.cst (.int 0))) (.cst (.int 0)))) [some (Sc ns), some (.ref 0), a2, some (.int (c : Int)), some (rowsD rows), some (orderD ((k, ws) :: o)), some (rowsD (rows.map mrR)), a7, a8, a9, a10, a11, a12, a13, some (rowD r), a15, a16, a17, a18] M = .ok (.bl (!decide (r.1 = k))) M := by
              simp only [eval] at i1 i2 ⊢
              rw [i1, R.bind_ok, i2]
              rfl
            by_cases hq : r.1 = k
            · rw [decide_eq_true hq] at t
              rw [show h (rowD r) = none by show (if decide (r.1 ≠ k) then _ else _) = _; rw [decide_eq_false (by simpa using hq)]; rfl]
              exact compT_no rfl rfl t rfl
            · rw [decide_eq_false hq] at t
              rw [show h (rowD r) = some (rowD r) by show (if decide (r.1 ≠ k) then _ else _) = _; rw [decide_eq_true hq]; rfl]
              exact compT_yes rfl rfl t rfl rfl
          · rw [List.nil_append]
            have : ∀ l : List Rw, (l.map rowD).filterMap h = (l.filter fun r => decide (r.1 ≠ k)).map rowD := fun l => by
              induction l with
              | nil => rfl
              | cons r l ih =>
                rw [List.map_cons, List.filterMap_cons, ih, List.filter_cons]
                by_cases hq : decide (r.1 ≠ k) = true
                · rw [show h (rowD r) = some (rowD r) by show (if decide (r.1 ≠ k) then _ else _) = _; rw [hq]; rfl, if_pos hq]; rfl
                · rw [show h (rowD r) = none by show (if decide (r.1 ≠ k) then _ else _) = _; rw [if_neg hq], if_neg hq]
            rw [this]
            rfl
        have hcr := Ho (rest rows k) M (nodup_rest hnd k) (Nat.le_trans (List.length_filter_le _ _) hr5)
        rw [order_rest hnd ho] at hcr
        refine (exec_seq (ex_asg ((ev_blt (ev_cons hcomp ev_nil)).trans rfl) rfl)).trans ((exec_seq (ex_ifF (x := .bl false) (M1 := M) ?_ rfl)).trans rfl)
        show ((cf 4 [rowsD (rest rows k)] M).bind fun x M => (R.ok (D.tup (cut (((k, ws) :: o).map stepD) (some ((1 : Nat) : Int)) none)) M).bind fun y M => R.ofB ((eqD M x y).map not) M) = _
        rw [hcr, cut_from]
        show R.ofB ((eqD M (noneD (some o)) (noneD (some o))).map not) M = _
        rw [eq_none]
        rfl
  obtain ⟨b11, hrest⟩ := hrest
  have hls := Hf rows M hnd hr5
  have hstr : eval gl cf (.and (.isN true (.var 7)) (.cmp .NotEq (.var 5) (.var 7))) [some (Sc ns), some (.ref 0), a2, some (.int (c : Int)), some (rowsD rows), some (noneD (orderV rows)), some (rowsD (rows.map mrR)), some (noneD (leastN rows.length rows)), a8, a9, a10, b11, a12, a13, a14, a15, a16, a17, a18] M = .ok (.bl false) M := by
    cases hle : leastN rows.length rows with
    | none => exact ev_andF (x := .bl false) rfl rfl
    | some o =>
      have ho : orderV rows = some o := least_order _ _ _ hle
      refine (ev_andT (x := .bl true) rfl rfl).trans ?_
      rw [ho]
      show R.ofB ((eqD M (noneD (some o)) (noneD (some o))).map not) M = _
      rw [eq_none]
      rfl
  have hfree : eval gl cf (.blt .tuple (.cons (.comp false [12, 13] (.tup (.cons (.name 12) (.cons (.name 13) .nil))) .seq (.cons (.var 4) .nil) .nil (.tup (.cons (.var 12) (.cons (.blt .tuple (.cons (.comp false [17, 18] (.tup (.cons (.name 17) (.cons (.name 18) .nil))) .seq (.cons (.var 13) .nil) .nil (.tup (.cons (.var 17) (.cons (.cst (.bl false)) .nil)))) .nil)) .nil)))) .nil)) [some (Sc ns), some (.ref 0), a2, some (.int (c : Int)), some (rowsD rows), some (noneD (orderV rows)), some (rowsD (rows.map mrR)), some (noneD (leastN rows.length rows)), a8, a9, a10, b11, a12, a13, a14, a15, a16, a17, a18] M = .ok (rowsD (rows.map frR)) M := by
    refine (ev_blt (ev_cons (map_ev rowD (fun r => rowD (frR r)) rows .seq rfl rfl fun r hr => compT_one rfl (ev_tup (ev_cons rfl (ev_cons ((ev_blt (ev_cons (map_ev tieD (fun p => tieD (p.1, false)) r.2 .seq rfl rfl fun p _ => compT_one rfl rfl) ev_nil)).trans ?_) ev_nil)) (by show 2 ≤ big; decide))) ev_nil)).trans ?_
    · show R.ok (D.tup (r.2.map fun p => tieD (p.1, false))) M = R.ok (tiesD (r.2.map fun p => (p.1, false))) M
      unfold tiesD
      rw [List.map_map]
      rfl
    · unfold rowsD
      rw [List.map_map]
      rfl
  obtain ⟨of, hof⟩ := order_free _ (rows.map frR) hnf (Nat.le_refl _) fun r hr p hp => by
    obtain ⟨r', _, rfl⟩ := List.mem_map.mp hr
    obtain ⟨p', _, rfl⟩ := List.mem_map.mp hp
    rfl
  have hof' : orderV (rows.map frR) = some of := hof
  have hcf := Ho (rows.map frR) M hnf (by rw [List.length_map]; exact hr5)
  rw [hof'] at hcf
  have hsrt : sortI (ordK of) = keys rows := by
    have hp := order_perm _ _ _ hnf hof
    rw [keys_fr] at hp
    have : (keys rows).Pairwise (· ≤ ·) := by
      rw [hkeys, List.pairwise_map]
      exact (List.pairwise_lt_range (n := c)).imp fun {a b} h => by omega
    exact (sortI_unique hp.symm this).symm
  have hft : eval gl cf (.or (.isN false (.call 4 (.cons (.var 8) .nil))) (.cmp .NotEq (.blt (.sorted false) (.cons (.comp false [15, 16] (.tup (.cons (.name 15) (.cons (.name 16) .nil))) .seq (.cons (.call 4 (.cons (.var 8) .nil)) .nil) .nil (.var 15)) .nil)) (.blt (.listrng false) (.cons (.var 3) .nil)))) [some (Sc ns), some (.ref 0), a2, some (.int (c : Int)), some (rowsD rows), some (noneD (orderV rows)), some (rowsD (rows.map mrR)), some (noneD (leastN rows.length rows)), some (rowsD (rows.map frR)), a9, a10, b11, a12, a13, a14, a15, a16, a17, a18] M = .ok (.bl false) M := by
    have e0 : eval gl cf (.isN false (.call 4 (.cons (.var 8) .nil))) [some (Sc ns), some (.ref 0), a2, some (.int (c : Int)), some (rowsD rows), some (noneD (orderV rows)), some (rowsD (rows.map mrR)), some (noneD (leastN rows.length rows)), some (rowsD (rows.map frR)), a9, a10, b11, a12, a13, a14, a15, a16, a17, a18] M = .ok (.bl false) M := by
      exact (ev_isN ((ev_call (ds := [rowsD (rows.map frR)]) rfl).trans hcf)).trans rfl
    refine (ev_orF (x := .bl false) e0 rfl).trans ?_
    have e1 : eval gl cf (.comp false [15, 16] (.tup (.cons (.name 15) (.cons (.name 16) .nil))) .seq (.cons (.call 4 (.cons (.var 8) .nil)) .nil) .nil (.var 15)) [some (Sc ns), some (.ref 0), a2, some (.int (c : Int)), some (rowsD rows), some (noneD (orderV rows)), some (rowsD (rows.map mrR)), some (noneD (leastN rows.length rows)), some (rowsD (rows.map frR)), a9, a10, b11, a12, a13, a14, a15, a16, a17, a18] M = .ok (.lst (of.map fun s => D.int s.1)) M :=
      map_ev stepD (fun s => D.int s.1) of .seq (ev_cons ((ev_call (ds := [rowsD (rows.map frR)]) rfl).trans hcf) ev_nil) rfl fun s _ => compT_one rfl rfl
    have e2 : eval gl cf (.blt (.sorted false) (.cons (.comp false [15, 16] (.tup (.cons (.name 15) (.cons (.name 16) .nil))) .seq (.cons (.call 4 (.cons (.var 8) .nil)) .nil) .nil (.var 15)) .nil)) [some (Sc ns), some (.ref 0), a2, some (.int (c : Int)), some (rowsD rows), some (noneD (orderV rows)), some (rowsD (rows.map mrR)), some (noneD (leastN rows.length rows)), some (rowsD (rows.map frR)), a9, a10, b11, a12, a13, a14, a15, a16, a17, a18] M = .ok (.lst ((keys rows).map D.int)) M := by
      refine (ev_blt (ev_cons e1 ev_nil)).trans ?_
      have e3 : ∀ l : List Step, intsOf (l.map fun s => D.int s.1) = some (ordK l) := fun l => by
        induction l with
        | nil => rfl
        | cons a l ih => simp only [List.map_cons, intsOf, ih]; rfl
      simp only [bltF, sorted, e3, Option.map_some, hsrt]
      rfl
    have e4 : eval gl cf (.blt (.listrng false) (.cons (.var 3) .nil)) [some (Sc ns), some (.ref 0), a2, some (.int (c : Int)), some (rowsD rows), some (noneD (orderV rows)), some (rowsD (rows.map mrR)), some (noneD (leastN rows.length rows)), some (rowsD (rows.map frR)), a9, a10, b11, a12, a13, a14, a15, a16, a17, a18] M = .ok (.lst ((keys rows).map D.int)) M := by
      refine (ev_blt rfl).trans ?_
      show (if 0 ≤ (c : Int) ∧ (c : Int) ≤ (big : Nat) then newL false (rng 0 (c : Int)) M else .stuck) = _
      rw [if_pos (by unfold big; omega), hkeys]
      unfold rng
      simp [newL]
    simp only [eval] at e2 e4 ⊢
    rw [e2, R.bind_ok, e4, R.bind_ok]
    show R.ofB ((if (D.lst ((keys rows).map D.int)).good && (D.lst ((keys rows).map D.int)).good then some (D.eqvL ((keys rows).map D.int) ((keys rows).map D.int)) else none).map not) M = _
    rw [good_lints, eqvL_ints, decide_eq_true rfl]
    rfl
  have hkr : keys (rows ++ ringT) = keys rows ++ [50, 51, 52] := by rw [keys_app]; rfl
  have hkb : keys (rows ++ brk) = keys rows ++ [50, 51, 52] := by rw [keys_app]; rfl
  have hn3 : (keys rows ++ [50, 51, 52]).Nodup := by
    rw [List.nodup_append]
    refine ⟨hnd, by decide, fun a ha b hb => ?_⟩
    have := hk50 a ha
    have hb : b = 50 ∨ b = 51 ∨ b = 52 := by simpa using hb
    omega
  have hout : ∀ a : Int, 50 ≤ a → a ∉ keys rows := fun a ha z => by have := hk50 a z; omega
  have horing : orderV (rows ++ ringT) = none := by
    refine order_ring _ _ ?_ ?_ ?_ ?_ ?_ ?_
    · rw [hkr]; simp
    · rw [hkr]; simp
    · rw [hkr]; simp
    · rw [getR_app_r (hout 50 (by decide))]; decide
    · rw [getR_app_r (hout 51 (by decide))]; decide
    · rw [getR_app_r (hout 52 (by decide))]; decide
  have hring : eval gl cf (.bin (.add false) (.var 4) (.tup (.cons (.tup (.cons (.cst (.int 50)) (.cons (.tup (.cons (.tup (.cons (.cst (.int 51)) (.cons (.cst (.bl true)) .nil))) .nil)) .nil))) (.cons (.tup (.cons (.cst (.int 51)) (.cons (.tup (.cons (.tup (.cons (.cst (.int 52)) (.cons (.cst (.bl true)) .nil))) .nil)) .nil))) (.cons (.tup (.cons (.cst (.int 52)) (.cons (.tup (.cons (.tup (.cons (.cst (.int 50)) (.cons (.cst (.bl true)) .nil))) .nil)) .nil))) .nil))))) [some (Sc ns), some (.ref 0), a2, some (.int (c : Int)), some (rowsD rows), some (noneD (orderV rows)), some (rowsD (rows.map mrR)), some (noneD (leastN rows.length rows)), some (rowsD (rows.map frR)), a9, a10, b11, a12, a13, a14, a15, a16, a17, a18] M = .ok (rowsD (rows ++ ringT)) M := by
    refine (ev_bin (x := rowsD rows) (y := rowsD ringT) rfl rfl).trans ?_
    show (if (rows.map rowD).length + 3 ≤ big then R.ok (D.tup (rows.map rowD ++ ringT.map rowD)) M else .stuck) = _
    rw [if_pos (by rw [List.length_map]; unfold big; omega), ← List.map_append]
    rfl
  have hbrok : eval gl cf (.bin (.add false) (.slc false (.var 9) .nil (.neg (.cst (.int 1)))) (.tup (.cons (.tup (.cons (.cst (.int 52)) (.cons (.tup (.cons (.tup (.cons (.cst (.int 50)) (.cons (.cst (.bl false)) .nil))) .nil)) .nil))) .nil))) [some (Sc ns), some (.ref 0), a2, some (.int (c : Int)), some (rowsD rows), some (noneD (orderV rows)), some (rowsD (rows.map mrR)), some (noneD (leastN rows.length rows)), some (rowsD (rows.map frR)), some (rowsD (rows ++ ringT)), a10, b11, a12, a13, a14, a15, a16, a17, a18] M = .ok (rowsD (rows ++ brk)) M := by
    have e1 : cut ((rows ++ ringT).map rowD) none (some (-1)) = (rows ++ [(50, [(51, true)]), (51, [(52, true)])]).map rowD := by
      unfold cut
      have hl : ((rows ++ ringT).map rowD).length = rows.length + 3 := by simp [ringT]
      rw [hl]
      show (((rows ++ ringT).map rowD).drop 0).take ((-1 + ((rows.length + 3 : Nat) : Int)).toNat - 0) = _
      rw [show (-1 + ((rows.length + 3 : Nat) : Int)).toNat - 0 = rows.length + 2 by omega, List.drop_zero, ← List.map_take, List.take_append, List.take_of_length_le (by omega)]
      simp [ringT]
    refine (ev_bin (x := .tup ((rows ++ [(50, [(51, true)]), (51, [(52, true)])]).map rowD)) (y := .tup [rowD (52, [(50, false)])]) (M1 := M) ?_ rfl).trans ?_
    · show R.ok (D.tup (cut ((rows ++ ringT).map rowD) none (some (-1)))) M = _
      rw [e1]
    · show (if ((rows ++ [(50, [(51, true)]), (51, [(52, true)])]).map rowD).length + 1 ≤ big then R.ok (D.tup ((rows ++ [(50, [(51, true)]), (51, [(52, true)])]).map rowD ++ [rowD (52, [(50, false)])])) M else .stuck) = _
      rw [if_pos (by simp; unfold big; omega)]
      show R.ok (D.tup ((rows ++ [(50, [(51, true)]), (51, [(52, true)])]).map rowD ++ [((52, [(50, false)]) : Rw)].map rowD)) M = _
      rw [← List.map_append, List.append_assoc]
      rfl
  have hcri := Ho (rows ++ ringT) M (by rw [hkr]; exact hn3) (by simp [ringT]; omega)
  have hcbr := Ho (rows ++ brk) M (by rw [hkb]; exact hn3) (by simp [brk]; omega)
  rw [horing] at hcri
  have hrt : eval gl cf (.or (.isN true (.call 4 (.cons (.var 9) .nil))) (.and (.isN false (.call 4 (.cons (.var 10) .nil))) (.isN true (.var 5)))) [some (Sc ns), some (.ref 0), a2, some (.int (c : Int)), some (rowsD rows), some (noneD (orderV rows)), some (rowsD (rows.map mrR)), some (noneD (leastN rows.length rows)), some (rowsD (rows.map frR)), some (rowsD (rows ++ ringT)), some (rowsD (rows ++ brk)), b11, a12, a13, a14, a15, a16, a17, a18] M = .ok (.bl false) M := by
    have e0 : eval gl cf (.isN true (.call 4 (.cons (.var 9) .nil))) [some (Sc ns), some (.ref 0), a2, some (.int (c : Int)), some (rowsD rows), some (noneD (orderV rows)), some (rowsD (rows.map mrR)), some (noneD (leastN rows.length rows)), some (rowsD (rows.map frR)), some (rowsD (rows ++ ringT)), some (rowsD (rows ++ brk)), b11, a12, a13, a14, a15, a16, a17, a18] M = .ok (.bl false) M := by
      exact (ev_isN ((ev_call (ds := [rowsD (rows ++ ringT)]) rfl).trans hcri)).trans rfl
    refine (ev_orF (x := .bl false) e0 rfl).trans ?_
    have e1 : eval gl cf (.isN false (.call 4 (.cons (.var 10) .nil))) [some (Sc ns), some (.ref 0), a2, some (.int (c : Int)), some (rowsD rows), some (noneD (orderV rows)), some (rowsD (rows.map mrR)), some (noneD (leastN rows.length rows)), some (rowsD (rows.map frR)), some (rowsD (rows ++ ringT)), some (rowsD (rows ++ brk)), b11, a12, a13, a14, a15, a16, a17, a18] M = .ok (.bl (orderV (rows ++ brk)).isNone) M := by
      rcases Option.eq_none_or_eq_some (orderV (rows ++ brk)) with hq | ⟨o', hq⟩
      · rw [hq] at hcbr ⊢
        exact (ev_isN ((ev_call (ds := [rowsD (rows ++ brk)]) rfl).trans hcbr)).trans rfl
      · rw [hq] at hcbr ⊢
        exact (ev_isN ((ev_call (ds := [rowsD (rows ++ brk)]) rfl).trans hcbr)).trans rfl
    cases ho : orderV rows with
    | some o =>
      obtain ⟨o', ho'⟩ := order_brk _ rows o hk50 ht50 ho
      have ho2 : orderV (rows ++ brk) = some o' := by
        unfold orderV
        rw [show (rows ++ brk).length = rows.length + 3 by simp [brk]]
        exact ho'
      rw [ho, ho2] at e1
      exact ev_andF (x := .bl false) e1 rfl
    | none =>
      rw [ho] at e1
      cases hb : (orderV (rows ++ brk)).isNone with
      | false => rw [hb] at e1; exact ev_andF (x := .bl false) e1 rfl
      | true => rw [hb] at e1; exact (ev_andT (x := .bl true) e1 rfl).trans rfl
  have hk3 : orderV [(3, [(3, true)])] = none := by decide
  have hk4 : orderV [(3, [(3, false)])] = some [(3, [3])] := by decide
  have hc3 := Ho [(3, [(3, true)])] M (by decide) (by decide)
  have hc4 := Ho [(3, [(3, false)])] M (by decide) (by decide)
  rw [hk3] at hc3
  rw [hk4] at hc4
  have hlast : eval gl cf (.or (.isN true (.call 4 (.cons (.tup (.cons (.tup (.cons (.cst (.int 3)) (.cons (.tup (.cons (.tup (.cons (.cst (.int 3)) (.cons (.cst (.bl true)) .nil))) .nil)) .nil))) .nil)) .nil))) (.cmp .NotEq (.call 4 (.cons (.tup (.cons (.tup (.cons (.cst (.int 3)) (.cons (.tup (.cons (.tup (.cons (.cst (.int 3)) (.cons (.cst (.bl false)) .nil))) .nil)) .nil))) .nil)) .nil)) (.tup (.cons (.tup (.cons (.cst (.int 3)) (.cons (.tup (.cons (.cst (.int 3)) .nil)) .nil))) .nil)))) [some (Sc ns), some (.ref 0), a2, some (.int (c : Int)), some (rowsD rows), some (noneD (orderV rows)), some (rowsD (rows.map mrR)), some (noneD (leastN rows.length rows)), some (rowsD (rows.map frR)), some (rowsD (rows ++ ringT)), some (rowsD (rows ++ brk)), b11, a12, a13, a14, a15, a16, a17, a18] M = .ok (.bl false) M := by
    have e0 : eval gl cf (.isN true (.call 4 (.cons (.tup (.cons (.tup (.cons (.cst (.int 3)) (.cons (.tup (.cons (.tup (.cons (.cst (.int 3)) (.cons (.cst (.bl true)) .nil))) .nil)) .nil))) .nil)) .nil))) [some (Sc ns), some (.ref 0), a2, some (.int (c : Int)), some (rowsD rows), some (noneD (orderV rows)), some (rowsD (rows.map mrR)), some (noneD (leastN rows.length rows)), some (rowsD (rows.map frR)), some (rowsD (rows ++ ringT)), some (rowsD (rows ++ brk)), b11, a12, a13, a14, a15, a16, a17, a18] M = .ok (.bl false) M := by
      exact (ev_isN ((ev_call (ds := [rowsD [(3, [(3, true)])]]) rfl).trans hc3)).trans rfl
    refine (ev_orF (x := .bl false) e0 rfl).trans ?_
    show ((cf 4 [rowsD [(3, [(3, false)])]] M).bind fun x M => (R.ok (orderD [(3, [3])]) M).bind fun y M => R.ofB ((eqD M x y).map not) M) = _
    rw [hc4, R.bind_ok, R.bind_ok]
    show R.ofB ((eqD M (noneD (some [(3, [3])])) (noneD (some [(3, [3])]))).map not) M = _
    rw [eq_none]
    rfl
  have hfin : t2 ≤ t + 100 := by omega
  refine ⟨t2, some (.int (c : Int)), some (rowsD rows), some (noneD (orderV rows)), some (rowsD (rows.map mrR)), some (noneD (leastN rows.length rows)), some (rowsD (rows.map frR)), some (rowsD (rows ++ ringT)), some (rowsD (rows ++ brk)), b11, ?_, hfin⟩
  refine (exec_seq (ex_asg ((ev_call (ds := [Sc ns, .ref 0, .int 9]) rfl).trans hd) rfl)).trans ?_
  refine (exec_seq (ex_asg ((ev_call (ds := [Sc ns, .ref 0, .int (c : Int), .bl true]) rfl).trans hrows) rfl)).trans ?_
  refine (exec_seq (ex_asg ((ev_call (ds := [rowsD rows]) rfl).trans (Ho rows M hnd hr5)) rfl)).trans ?_
  refine (exec_seq (ex_ifF (x := .bl false) (M1 := M) (ev_not (v := true) ((ev_call (ds := [rowsD rows, noneD (orderV rows)]) rfl).trans (Ht rows M hnd hr5)) rfl) rfl)).trans ?_
  refine (exec_seq (ex_asg (hmore _) rfl)).trans ?_
  refine (exec_seq (ex_ifF (hneq _ _ _ _ _ _ rfl) rfl)).trans ?_
  refine (exec_seq hrest).trans ?_
  refine (exec_seq (ex_asg ((ev_call (ds := [rowsD rows]) rfl).trans hls) rfl)).trans ?_
  refine (exec_seq (ex_ifF hstr rfl)).trans ?_
  refine (exec_seq (ex_asg hfree rfl)).trans ?_
  refine (exec_seq (ex_ifF hft rfl)).trans ?_
  refine (exec_seq (ex_asg hring rfl)).trans ?_
  refine (exec_seq (ex_asg hbrok rfl)).trans ?_
  refine (exec_seq (ex_ifF hrt rfl)).trans ?_
  refine (exec_seq (ex_ifF hlast rfl)).trans ?_
  rw [hM]
  rfl
theorem law_ex (ns : List Int) : ∃ M', exec gl cf sb K16.b_law (start 19 [Sc ns]) [] = .rt (.bl true) M' := by
  rw [law_eq]
  have hs : ∀ t, exec gl cf sb (.seq (.asg (.name 1) (.lst true .nil)) t) (start 19 [Sc ns]) [] = exec gl cf sb t [some (Sc ns), some (.ref 0), none, none, none, none, none, none, none, none, none, none, none, none, none, none, none, none, none] [.lst (zs 0)] := fun t => exec_seq rfl
  rw [hs]
  have hf : ∃ ρ' M', exec gl cf sb (.for (.name 2) .range (.cons (.cst (.int 12)) .nil) iterC) [some (Sc ns), some (.ref 0), none, none, none, none, none, none, none, none, none, none, none, none, none, none, none, none, none] [.lst (zs 0)] = .nx ρ' M' := by
    have hit : items .range [.int 12] [MO.lst (zs 0)] = some (rng 0 12) := by decide
    rw [ex_for (ds := [.int 12]) (M1 := [.lst (zs 0)]) rfl hit]
    obtain ⟨ρ', M', e, _⟩ := forL_ind (ds := [D.int 12]) (M0 := [MO.lst (zs 0)]) (g := forT gl cf sb (.name 2) iterC)
      (fun rst ρ M' => ∃ (i t : Nat) (b2 b3 b4 b5 b6 b7 b8 b9 b10 b11 b12 b13 b14 b15 b16 b17 b18 : Option D), rst.length + i = 12 ∧ ρ = [some (Sc ns), some (.ref 0), b2, b3, b4, b5, b6, b7, b8, b9, b10, b11, b12, b13, b14, b15, b16, b17, b18] ∧ M' = .lst (zs t) :: [] ∧ t ≤ 100 * i)
      (by
        rintro x rst ρ M' ⟨i, t, b2, b3, b4, b5, b6, b7, b8, b9, b10, b11, b12, b13, b14, b15, b16, b17, b18, e1, rfl, rfl, e5⟩
        refine ⟨rfl, ?_⟩
        simp only [List.length_cons] at e1
        obtain ⟨t', c3, c4, c5, c6, c7, c8, c9, c10, c11, h, h3⟩ := iter (gl := gl) (sb := sb) Hd Hr Ho Hf Ht ns t (by omega) (L := []) (fun _ => rfl) (a2 := some x) (a3 := b3) (a4 := b4) (a5 := b5) (a6 := b6) (a7 := b7) (a8 := b8) (a9 := b9) (a10 := b10) (a11 := b11) (a12 := b12) (a13 := b13) (a14 := b14) (a15 := b15) (a16 := b16) (a17 := b17) (a18 := b18)
        exact ⟨_, _, .inl ((forT_eq rfl).trans h), i + 1, t', _, _, _, _, _, _, _, _, _, _, _, _, _, _, _, _, _, by omega, rfl, rfl, by omega⟩)
      (by rintro ρ M' _; rfl) (rng 0 12) [some (Sc ns), some (.ref 0), none, none, none, none, none, none, none, none, none, none, none, none, none, none, none, none, none] [.lst (zs 0)] ⟨0, 0, _, _, _, _, _, _, _, _, _, _, _, _, _, _, _, _, _, rfl, rfl, rfl, Nat.le_refl _⟩
    exact ⟨ρ', M', e⟩
  obtain ⟨ρ', M', e⟩ := hf
  exact ⟨M', (exec_seq e).trans (exec_seq_rt rfl)⟩
end
end P16
end MP
theorem K16.plain (ns : List Int) (h : ns.length ≤ 63) : ∃ M', MP.callF K16.pk.P (29 + 1) 8 [.lst (ns.map MP.D.int)] [] = .ok (.bl true) M' := by
  have hW : K16.prog.funs[1]? = some ⟨3, 5, false, MP.waitsB⟩ := rfl
  have hO : K16.prog.funs[0]? = some ⟨1, 6, false, MP.putB 1 1⟩ := rfl
  have hc4 : ∀ rows M, (MP.keys rows).Nodup → rows.length ≤ 500 → MP.callF K16.prog 28 4 [MP.rowsD rows] M = .ok (MP.P16.noneD (MP.orderV rows)) M := fun rows M h1 h2 => MP.P16.ord_ok (n := 25) hW hO rfl rfl h1 h2 M
  have hs := MP.P16.law_ex (gl := K16.prog.gl) (cf := MP.callF K16.prog 29) (sb := K16.prog.subAt) (MP.P03.draw_s (n := 28) rfl)
    (fun ns t m L h1 h2 h3 => by
      obtain ⟨rows, t', e, e2, e3, e4, e5, e6⟩ := MP.P16.rows_ex (gl := K16.prog.gl) (cf := MP.callF K16.prog 28) (sb := K16.prog.subAt) (MP.P03.draw_s (n := 27) rfl) ns t h1 h2 h3
      refine ⟨rows, t', ?_, e2, e3, e4, e5, e6⟩
      have hc : MP.callF K16.prog 29 5 [MP.P03.Sc ns, .ref 0, .int (m : Int), .bl true] (.lst (MP.zs t) :: L) = MP.fin false (.lst (MP.zs t) :: L) (MP.exec K16.prog.gl (MP.callF K16.prog 28) K16.prog.subAt MP.P16.rowsB (MP.start 9 [MP.P03.Sc ns, .ref 0, .int (m : Int), .bl true]) (.lst (MP.zs t) :: L)) := MP.callF_eq (P := K16.prog) (n := 28) (f := 5) (fn := ⟨4, 9, false, MP.P16.rowsB⟩) rfl rfl
      rw [hc, e]
      have hfl : (MP.rowsD rows).flat = true := by
        show MP.D.flatL (rows.map MP.rowD) = true
        clear e e2 e3 e4
        induction rows with
        | nil => rfl
        | cons r rows ih =>
          have := MP.flat_ties r.2
          simp [MP.D.flatL, MP.rowD, MP.D.flat, ih, this]
      simp only [MP.fin, MP.close, Bool.false_eq_true, if_false]
      rw [MP.under_flat _ hfl, if_pos rfl, MP.drop_new]
      · simp
      · simp only [List.all_cons, Bool.and_eq_true, List.length_cons]
        exact ⟨MP.underL_flat _ (MP.zs_flat _), h3 _⟩)
    (fun rows M h1 h2 => MP.P16.ord_ok (n := 26) hW hO rfl rfl h1 h2 M)
    (fun rows M h1 h2 => by
      obtain ⟨X, e⟩ := MP.P16.lf_ex (gl := K16.prog.gl) (cf := MP.callF K16.prog 28) (sb := K16.prog.subAt) h1 h2 M
      have hc : MP.callF K16.prog 29 6 [MP.rowsD rows] M = MP.fin false M (MP.exec K16.prog.gl (MP.callF K16.prog 28) K16.prog.subAt MP.P16.lfB (MP.start 7 [MP.rowsD rows]) M) := MP.callF_eq (P := K16.prog) (n := 28) (f := 6) (fn := ⟨1, 7, false, MP.P16.lfB⟩) rfl rfl
      rw [hc, e]
      exact MP.fin_app (MP.P16.flat_none _))
    (fun rows M h1 h2 => by
      have e := MP.P16.tw_ex (gl := K16.prog.gl) (cf := MP.callF K16.prog 28) (sb := K16.prog.subAt) hc4 h1 h2 M
      have hc : MP.callF K16.prog 29 7 [MP.rowsD rows, MP.P16.noneD (MP.orderV rows)] M = MP.fin false M (MP.exec K16.prog.gl (MP.callF K16.prog 28) K16.prog.subAt MP.P16.twB (MP.start 11 [MP.rowsD rows, MP.P16.noneD (MP.orderV rows)]) M) := MP.callF_eq (P := K16.prog) (n := 28) (f := 7) (fn := ⟨2, 11, false, MP.P16.twB⟩) rfl rfl
      rw [hc, e]
      exact MP.fin_same rfl) ns
  have hc : MP.callF K16.pk.P (29 + 1) 8 [.lst (ns.map MP.D.int)] [] = MP.fin false [] (MP.exec K16.prog.gl (MP.callF K16.prog 29) K16.prog.subAt K16.b_law (MP.start 19 [.lst (ns.map MP.D.int)]) []) := MP.callF_eq (P := K16.prog) (n := 29) (f := 8) rfl rfl
  obtain ⟨M', e⟩ := hs
  rw [hc, e]
  exact ⟨[], MP.fin_app (M := []) (L := M') rfl⟩

open PySem PySem.W PySem.Calls PyProof.Rows
theorem PySem.Challenge.cw_rowkeep_k16_whole_orders_led_on_holds : PySem.Challenge.rw_rowkeep_k16_whole_orders_led_on.Holds := by
  w_on; o_law
  refine HandSHeadRun.head_any (r := K16.Rw) (q := K16.qv) (H := K16.hk) (ob := MP.obL 4 K16.pk.fa K16.pk.dd) (M := 3000) (loose := K16.names) (d := HandSHeadRun.topDef K16.Rw.prog 13) (kwd := []) MP.obL_eq
    (by kernel_rfl) (fun s => by kernel_rfl) K16.run (by kernel_rfl) (by kernel_rfl) (by kernel_rfl) (by rfl) (by first | assumption | decide +kernel) (by decide +kernel) ⟨rfl, rfl, rfl, rfl, rfl, by decide +kernel⟩ ?hw ?hc
  case hw => w_witness2
  case hc => exact MP.pk_hc (m := 63) (n := 29) (i := 8) (y := "script") rfl (by decide) (by kernel_rfl) ⟨rfl, by decide, by decide⟩ K16.bd K16.ck rfl rfl (by kernel_rfl) K16.plain

